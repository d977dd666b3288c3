import PyProof.Rows.All
import Wide.All
import OpenK.AllK
import Wide.FinOn
import HandS.Base
import HandS.Call
import HandS.List
import HandS.Comp
import HandS.Ends
import HandS.Dict
import HandS.Iter
import HandS.Text
import HandS.Words
import HandS.WordsList
import HandS.WordsDict
import HandS.Exc
import HandS.TryOnly
import HandS.ExcOwn
import HandS.WordsExc
import HandS.Wide
import HandS.IsInst
import HandS.WideBits
import HandS.Flow
import KE.KDictKeyed
import HandS.Deep
import HandS.Defaults
import HandS.HeadHook2
import HandS.ExcIs
import HandS.TryMany
import HandS.HeadHook1
import HandS.EndBits
import KE.KStateDown
import HandS.More
import HandS.Head0
import HandS.Head1
import HandS.Head2
import HandS.HeadEnd
import PySem.Challenge.RW_acre_k71_numbers_and_points
set_option Elab.async false
set_option linter.all false
set_option maxRecDepth 100000
set_option maxHeartbeats 2000000
namespace Ac
open PySem PySem.Spec PyProof.Rows L2
abbrev Slots := L2.St
def WE (X : Cx) (e : Expr) : TE := fun σ H Q => ∀ (pins : List (Addr × Obj)) (s : Shared), Inv X pins σ H s → wpAny (model X.prog X.w) X.A (eval e X.env) (EP X pins σ Q) X.xe s
def WT (X : Cx) (e : Expr) : TT := fun σ H Q => ∀ (pins : List (Addr × Obj)) (s : Shared), Inv X pins σ H s → wpAny (model X.prog X.w) X.A (isTrue e X.env (eval e X.env)) (TP X pins σ Q) X.xe s
def WA (X : Cx) (es : List Expr) : TA := fun σ H Q => ∀ (pos : Pos) (pins : List (Addr × Obj)) (s : Shared), Inv X pins σ H s → wpAny (model X.prog X.w) X.A (spliced (backTo pos (starEach es X.env))) (AP X pins σ Q) X.xe s
def WS (X : Cx) (st : Stmt) : TS := fun D σ H => ∀ (pins : List (Addr × Obj)) (s : Shared), Inv X pins σ H s → wpAny (model X.prog X.w) X.A (exec st X.env) (SP X pins D) X.xe s
def WB (X : Cx) (st : List Stmt) : TS := fun D σ H => ∀ (pins : List (Addr × Obj)) (s : Shared), Inv X pins σ H s → wpAny (model X.prog X.w) X.A (execs st X.env) (SP X pins D) X.xe s
section
variable {X : Cx}
theorem pe_w (e : Expr) : PE X e (WE X e) := ⟨fun pins s _ _ _ I h => h pins s I⟩
theorem pt_w (e : Expr) : PT X e (WT X e) := ⟨fun pins s _ _ _ I h => h pins s I⟩
theorem pa_w (es : List Expr) : PA X es (WA X es) := ⟨fun pos pins s _ _ _ I h => h pos pins s I⟩
theorem ps_w (st : Stmt) : PS X st (WS X st) := ⟨fun pins s _ _ _ I h => h pins s I⟩
theorem pb_w (st : List Stmt) : PSs X st (WB X st) := ⟨fun pins s _ _ _ I h => h pins s I⟩
theorem _root_.L2.PE.to {e : Expr} {t : TE} (h : PE X e t) {σ : Slots} {H : Hp} {Q : VK} (q : t σ H Q) : WE X e σ H Q := fun pins s I => h.run pins s σ H Q I q
theorem _root_.L2.PT.to {e : Expr} {t : TT} (h : PT X e t) {σ : Slots} {H : Hp} {Q : Bool → Hp → Prop} (q : t σ H Q) : WT X e σ H Q := fun pins s I => h.run pins s σ H Q I q
theorem _root_.L2.PA.to {es : List Expr} {t : TA} (h : PA X es t) {σ : Slots} {H : Hp} {Q : List V → Hp → Prop} (q : t σ H Q) : WA X es σ H Q := fun pos pins s I => h.run pos pins s σ H Q I q
theorem _root_.L2.PS.to {st : Stmt} {t : TS} (h : PS X st t) {σ : Slots} {H : Hp} {D : Ends} (q : t D σ H) : WS X st D σ H := fun pins s I => h.run pins s σ H D I q
theorem _root_.L2.PSs.to {st : List Stmt} {t : TS} (h : PSs X st t) {σ : Slots} {H : Hp} {D : Ends} (q : t D σ H) : WB X st D σ H := fun pins s I => h.run pins s σ H D I q
theorem WE.imp {e : Expr} {σ : Slots} {H : Hp} {Q Q' : VK} (h : WE X e σ H Q) (f : ∀ v H', Q v H' → Q' v H') : WE X e σ H Q' := fun pins s I =>
  thn (h pins s I) fun u s' ⟨v, H', I', r, q⟩ => ⟨v, H', I', r, f v H' q⟩
theorem WT.imp {e : Expr} {σ : Slots} {H : Hp} {Q Q' : Bool → Hp → Prop} (h : WT X e σ H Q) (f : ∀ v H', Q v H' → Q' v H') : WT X e σ H Q' := fun pins s I =>
  thn (h pins s I) fun u s' ⟨H', I', q⟩ => ⟨H', I', f u H' q⟩
end
inductive DKey where
  | k (k : Key)
  | n (k : NestedKey) (a : Addr)
def keyD : Key → PyData
  | .inl i => .int i
  | .inr x => .str x
def DKey.data : DKey → PyData
  | .k q => keyD q
  | .n q _ => q.data
/-- a dict whose keys are tuples, at its address -/
def nD (w : World) (a : Addr) (xs : List (NestedKey × Addr × V)) : HO := .ext fun h =>
  ∃ (ys : List (NestedKey × Addr × Value)) (o : Obj) (es : Array DictEntry) (ep : Nat), Paired (fun p q => p.1 = q.1 ∧ p.2.1 = q.2.1 ∧ RelV p.2.2 q.2.2) xs ys ∧ h.get? a = some o ∧ o.ExactDict ∧ o.data = .dict es ep ∧
    es.toList = ys.map (fun x => (⟨x.1.hash w, .ref x.2.1, x.2.2⟩ : DictEntry))
/-- a dict at its address, its keys and values in order -/
def Dc (w : World) (C : Hp) (a : Addr) (ps : List (DKey × V)) : Prop :=
  (∃ kvs : List (Key × V), C a = some (.dK kvs) ∧ ps = kvs.map fun p => (DKey.k p.1, p.2)) ∨
  (∃ xs : List (NestedKey × Addr × V), C a = some (nD w a xs) ∧ (a == sysModules) = false ∧ (xs.map (·.1)).Nodup ∧ xs.length ≤ sizeLine ∧ (∀ x ∈ xs, x.1.depth ≤ 8) ∧ ps = xs.map fun x => (DKey.n x.1 x.2.1, x.2.2))
mutual
inductive Rp (K : PySem.W.Frag) (w : World) (C : Hp) : V → PyData → Prop
  | non : Rp K w C .non .none
  | bl (b : Bool) : Rp K w C (.bl b) (.bool b)
  | int (i : Int) : Rp K w C (.int i) (.int i)
  | str (x : Str) : Rp K w C (.str x) (.str x)
  | lst {a : Addr} {xs : List V} {ds : List PyData} : SqL K C a xs → RpL K w C xs ds → Rp K w C (.ref a) (.list ds)
  | tup {a : Addr} {xs : List V} {ds : List PyData} : SqT K C a xs → RpL K w C xs ds → Rp K w C (.ref a) (.tuple ds)
  | dct {a : Addr} {ps : List (DKey × V)} {kvs : List (PyData × PyData)} : Dc w C a ps → RpP K w C ps kvs → Rp K w C (.ref a) (.dict kvs)
inductive RpL (K : PySem.W.Frag) (w : World) (C : Hp) : List V → List PyData → Prop
  | nil : RpL K w C [] []
  | cons {v : V} {vs : List V} {d : PyData} {ds : List PyData} : Rp K w C v d → RpL K w C vs ds → RpL K w C (v :: vs) (d :: ds)
inductive RpP (K : PySem.W.Frag) (w : World) (C : Hp) : List (DKey × V) → List (PyData × PyData) → Prop
  | nil : RpP K w C [] []
  | consK {k : Key} {v : V} {d : PyData} {ps : List (DKey × V)} {kvs : List (PyData × PyData)} : Rp K w C v d → RpP K w C ps kvs → RpP K w C ((.k k, v) :: ps) ((keyD k, d) :: kvs)
  | consN {k : NestedKey} {b : Addr} {v : V} {d : PyData} {ps : List (DKey × V)} {kvs : List (PyData × PyData)} : Rp K w C (.ref b) k.data → Rp K w C v d → RpP K w C ps kvs → RpP K w C ((.n k b, v) :: ps) ((k.data, d) :: kvs)
end
theorem sqT_mono {K : PySem.W.Frag} {C C' : Hp} {a : Addr} {xs : List V} (e : Same C C') (h : SqT K C a xs) : SqT K C' a xs := by
  rcases h with (h | ⟨o, h⟩) | h
  · exact .inl (.inl (e _ _ h))
  · exact .inl (.inr ⟨o, e _ _ h⟩)
  · exact .inr h
theorem Dc.mono {w : World} {C C' : Hp} {a : Addr} {ps : List (DKey × V)} (e : Same C C') (h : Dc w C a ps) : Dc w C' a ps := by
  rcases h with ⟨kvs, h, r⟩ | ⟨xs, h, r⟩
  · exact .inl ⟨kvs, e _ _ h, r⟩
  · exact .inr ⟨xs, e _ _ h, r⟩
section
variable {K : PySem.W.Frag} {w : World} {C C' : Hp}
theorem RpP.inv {ps : List (DKey × V)} {q : PyData × PyData} {kvs : List (PyData × PyData)} (h : RpP K w C ps (q :: kvs)) :
    (∃ k v ps', ps = (.k k, v) :: ps' ∧ q.1 = keyD k ∧ Rp K w C v q.2 ∧ RpP K w C ps' kvs) ∨
    (∃ k b v ps', ps = (.n k b, v) :: ps' ∧ q.1 = k.data ∧ Rp K w C (.ref b) q.1 ∧ Rp K w C v q.2 ∧ RpP K w C ps' kvs) := by
  cases h with
  | consK h1 h2 => exact .inl ⟨_, _, _, rfl, rfl, h1, h2⟩
  | consN h0 h1 h2 => exact .inr ⟨_, _, _, _, rfl, rfl, h0, h1, h2⟩
mutual
theorem Rp.mono (e : Same C C') : ∀ (d : PyData) (v : V), Rp K w C v d → Rp K w C' v d
  | .none, _, h => by cases h; exact .non
  | .bool b, _, h => by cases h; exact .bl b
  | .int i, _, h => by cases h; exact .int i
  | .str x, _, h => by cases h; exact .str x
  | .list ds, _, h => by
    cases h with
    | lst hs ha => exact .lst (e.seq hs) (RpL.mono e ds _ ha)
  | .tuple ds, _, h => by
    cases h with
    | tup hs ha => exact .tup (sqT_mono e hs) (RpL.mono e ds _ ha)
  | .dict kvs, _, h => by
    cases h with
    | dct hs ha => exact .dct (hs.mono e) (RpP.mono e kvs _ ha)
theorem RpL.mono (e : Same C C') : ∀ (ds : List PyData) (vs : List V), RpL K w C vs ds → RpL K w C' vs ds
  | [], _, h => by cases h; exact .nil
  | d :: ds, _, h => by
    cases h with
    | cons h1 h2 => exact .cons (Rp.mono e d _ h1) (RpL.mono e ds _ h2)
theorem RpP.mono (e : Same C C') : ∀ (kvs : List (PyData × PyData)) (ps : List (DKey × V)), RpP K w C ps kvs → RpP K w C' ps kvs
  | [], _, h => by cases h; exact .nil
  | (kd, d) :: kvs, _, h => by
    rcases h.inv with ⟨k, v, ps', rfl, h0, h1, h2⟩ | ⟨k, b, v, ps', rfl, h0, h00, h1, h2⟩
    · have h0' : kd = keyD k := h0
      rw [h0']
      exact .consK (Rp.mono e d _ h1) (RpP.mono e kvs _ h2)
    · have h3 := Rp.mono e kd _ h00
      have h0' : kd = k.data := h0
      rw [h0'] at h3 ⊢
      exact .consN h3 (Rp.mono e d _ h1) (RpP.mono e kvs _ h2)
end
theorem Rp.up (h : Rp K w C v d) (e : Same C C') : Rp K w C' v d := Rp.mono e _ _ h
theorem RpL.up (h : RpL K w C v d) (e : Same C C') : RpL K w C' v d := RpL.mono e _ _ h
theorem RpP.up (h : RpP K w C v d) (e : Same C C') : RpP K w C' v d := RpP.mono e _ _ h
theorem RpL.length : ∀ {vs : List V} {ds : List PyData}, RpL K w C vs ds → vs.length = ds.length
  | _, [], h => by cases h; rfl
  | _, d :: ds, h => by
    cases h with
    | cons h1 h2 => simp [RpL.length h2]
theorem RpL.get : ∀ {vs : List V} {ds : List PyData} {i : Nat} {d : PyData}, RpL K w C vs ds → ds[i]? = some d → ∃ v, vs[i]? = some v ∧ Rp K w C v d
  | _, [], _, _, _, e => by simp at e
  | _, d :: ds, 0, _, h, e => by
    cases h with
    | cons h1 h2 => simp at e; subst e; exact ⟨_, rfl, h1⟩
  | _, d :: ds, i + 1, x, h, e => by
    cases h with
    | cons h1 h2 =>
      obtain ⟨v, q1, q2⟩ := RpL.get (i := i) (d := x) h2 (by simpa using e)
      exact ⟨v, by simpa using q1, q2⟩
theorem RpL.getV : ∀ {vs : List V} {ds : List PyData} {i : Nat} {v : V}, RpL K w C vs ds → vs[i]? = some v → ∃ d, ds[i]? = some d ∧ Rp K w C v d := fun {vs ds i v} h e => by
  have hl := h.length
  have hi : i < vs.length := (List.getElem?_eq_some_iff.mp e).1
  obtain ⟨v', e1, r⟩ := h.get (List.getElem?_eq_getElem (show i < ds.length by omega))
  rw [e] at e1; cases e1
  exact ⟨_, List.getElem?_eq_getElem _, r⟩
theorem RpL.append : ∀ {vs us : List V} {ds es : List PyData}, RpL K w C vs ds → RpL K w C us es → RpL K w C (vs ++ us) (ds ++ es)
  | _, _, [], _, h, g => by cases h; exact g
  | _, _, d :: ds, _, h, g => by
    cases h with
    | cons h1 h2 => exact .cons h1 (RpL.append h2 g)
theorem RpL.take : ∀ {vs : List V} {ds : List PyData} (n : Nat), RpL K w C vs ds → RpL K w C (vs.take n) (ds.take n)
  | _, _, 0, _ => .nil
  | _, [], _ + 1, h => by cases h; exact .nil
  | _, d :: ds, n + 1, h => by
    cases h with
    | cons h1 h2 => exact .cons h1 (RpL.take n h2)
theorem RpL.drop : ∀ {vs : List V} {ds : List PyData} (n : Nat), RpL K w C vs ds → RpL K w C (vs.drop n) (ds.drop n)
  | _, _, 0, h => h
  | _, [], _ + 1, h => by cases h; exact .nil
  | _, d :: ds, n + 1, h => by
    cases h with
    | cons h1 h2 => exact RpL.drop n h2
theorem RpL.one (h : Rp K w C v d) : RpL K w C [v] [d] := .cons h .nil
theorem RpL.reverse : ∀ {vs : List V} {ds : List PyData}, RpL K w C vs ds → RpL K w C vs.reverse ds.reverse
  | _, [], h => by cases h; exact .nil
  | _, d :: ds, h => by
    cases h with
    | cons h1 h2 => rw [List.reverse_cons, List.reverse_cons]; exact (RpL.reverse h2).append (.one h1)
end
inductive Cell where
  | d (x : PyData)
  | l (xs : List PyData)
def Cell.frz : Cell → PyData
  | .d x => x
  | .l xs => .list xs
inductive EB where
  | dat (x : PyData)
  | lst (xs : List PyData)
  | dct (t : Bool) (kvs : List (PyData × Cell))
def EB.frz : EB → PyData
  | .dat x => x
  | .lst xs => .list xs
  | .dct _ kvs => .dict (kvs.map fun p => (p.1, p.2.frz))
inductive EV where
  | b (e : EB)
  | obj (c : Str) (fs : List (Str × EB))
  | opq (v : V)
abbrev EV.dat (x : PyData) : EV := .b (.dat x)
abbrev EV.lst (x : List PyData) : EV := .b (.lst x)
abbrev EV.dct (t : Bool) (x : List (PyData × Cell)) : EV := .b (.dct t x)
inductive OwnC (K : PySem.W.Frag) (w : World) (C H : Hp) : List (DKey × V) → List (PyData × Cell) → List Addr → Prop
  | nil : OwnC K w C H [] [] []
  | cons {k : DKey} {v : V} {x : PyData} {ps : List (DKey × V)} {kvs : List (PyData × Cell)} {F : List Addr} : (∀ n b, k = .n n b → Rp K w C (.ref b) n.data) → Rp K w C v x → OwnC K w C H ps kvs F → OwnC K w C H ((k, v) :: ps) ((k.data, .d x) :: kvs) F
  | consL {k : DKey} {l : Addr} {vs : List V} {xs : List PyData} {ps : List (DKey × V)} {kvs : List (PyData × Cell)} {F : List Addr} : (∀ n b, k = .n n b → Rp K w C (.ref b) n.data) → H l = some (.lst vs) → RpL K w C vs xs → OwnC K w C H ps kvs F →
      OwnC K w C H ((k, .ref l) :: ps) ((k.data, .l xs) :: kvs) (l :: F)
/-- the sort of a dict's keys -/
def DcT (w : World) (H : Hp) (a : Addr) (t : Bool) (ps : List (DKey × V)) : Prop :=
  match t with
  | false => ∃ kvs : List (Key × V), H a = some (.dK kvs) ∧ (a == sysModules) = false ∧ (kvs.map (·.1)).Nodup ∧ ps = kvs.map fun p => (DKey.k p.1, p.2)
  | true => ∃ xs : List (NestedKey × Addr × V), H a = some (nD w a xs) ∧ (a == sysModules) = false ∧ (xs.map (·.1)).Nodup ∧ xs.length ≤ sizeLine ∧ (∀ x ∈ xs, x.1.depth ≤ 8) ∧ ps = xs.map fun x => (DKey.n x.1 x.2.1, x.2.2)
inductive OwnB (K : PySem.W.Frag) (w : World) (C H : Hp) : V → EB → List Addr → Prop
  | dat {v : V} {x : PyData} : Rp K w C v x → OwnB K w C H v (.dat x) []
  | lst {l : Addr} {vs : List V} {xs : List PyData} : H l = some (.lst vs) → RpL K w C vs xs → OwnB K w C H (.ref l) (.lst xs) [l]
  | dct {a : Addr} {t : Bool} {ps : List (DKey × V)} {kvs : List (PyData × Cell)} {F : List Addr} : DcT w H a t ps → OwnC K w C H ps kvs F → (a :: F).Nodup → OwnB K w C H (.ref a) (.dct t kvs) (a :: F)
inductive OwnF (K : PySem.W.Frag) (w : World) (C H : Hp) : List (Str × V) → List (Str × EB) → List Addr → Prop
  | nil : OwnF K w C H [] [] []
  | cons {f : Str} {v : V} {e : EB} {vs : List (Str × V)} {es : List (Str × EB)} {F G : List Addr} : OwnB K w C H v e F → OwnF K w C H vs es G → (∀ a ∈ F, a ∉ G) → OwnF K w C H ((f, v) :: vs) ((f, e) :: es) (F ++ G)
inductive Own (K : PySem.W.Frag) (w : World) (mg : Str → Option Value) (C H : Hp) : V → EV → List Addr → Prop
  | b {v : V} {e : EB} {F : List Addr} : OwnB K w C H v e F → Own K w mg C H v (.b e) F
  | opq {v : V} : Own K w mg C H v (.opq v) []
  | obj {x dx Cc : Addr} {c : Str} {vs : List (Str × V)} {es : List (Str × EB)} {F : List Addr} : mg c = some (.ref Cc) → H x = some (.ins Cc dx vs) → OwnF K w C H vs es F → x ∉ F → Own K w mg C H (.ref x) (.obj c es) (x :: F)
end Ac
set_option Elab.async false
set_option linter.all false
set_option maxRecDepth 100000
set_option maxHeartbeats 2000000
namespace Ac
open PySem PySem.Spec PyProof.Rows L2
abbrev Envr := List (Option EV)
abbrev Ph := Nat → List Addr
def Sof (φ : Ph) (a : Addr) : Prop := ∃ i, a ∈ φ i
section
variable {K : PySem.W.Frag} {w : World} {mg : Str → Option Value} {C C' H H' : Hp} {v : V} {F : List Addr}
theorem OwnC.up (e : Same C C') : ∀ {ps kvs F}, OwnC K w C H ps kvs F → OwnC K w C' H ps kvs F := by
  intro ps kvs F h
  induction h with
  | nil => exact .nil
  | cons h1 h2 _ ih => exact .cons (fun n b z => (h1 n b z).up e) (h2.up e) ih
  | consL h1 h2 h3 _ ih => exact .consL (fun n b z => (h1 n b z).up e) h2 (h3.up e) ih
theorem OwnB.up (e : Same C C') {x : EB} (h : OwnB K w C H v x F) : OwnB K w C' H v x F := by
  cases h with
  | dat h => exact .dat (h.up e)
  | lst h1 h2 => exact .lst h1 (h2.up e)
  | dct h1 h2 h3 => exact .dct h1 (h2.up e) h3
theorem OwnF.up (e : Same C C') : ∀ {vs es F}, OwnF K w C H vs es F → OwnF K w C' H vs es F := by
  intro vs es F h
  induction h with
  | nil => exact .nil
  | cons h1 _ h3 ih => exact .cons (h1.up e) ih h3
theorem Own.up (e : Same C C') {x : EV} (h : Own K w mg C H v x F) : Own K w mg C' H v x F := by
  cases h with
  | b h => exact .b (h.up e)
  | opq => exact .opq
  | obj h1 h2 h3 h4 => exact .obj h1 h2 (h3.up e) h4
theorem OwnC.at : ∀ {ps kvs F}, OwnC K w C H ps kvs F → (∀ a ∈ F, H' a = H a) → OwnC K w C H' ps kvs F := by
  intro ps kvs F h
  induction h with
  | nil => exact fun _ => .nil
  | cons h1 h2 _ ih => exact fun q => .cons h1 h2 (ih q)
  | consL h1 h2 h3 _ ih => exact fun q => .consL h1 ((q _ List.mem_cons_self).trans h2) h3 (ih fun a ha => q a (List.mem_cons_of_mem _ ha))
theorem DcT.at {a : Addr} {t : Bool} {ps : List (DKey × V)} (h : DcT w H a t ps) (q : H' a = H a) : DcT w H' a t ps := by
  cases t with
  | false => obtain ⟨kvs, e, r⟩ := h; exact ⟨kvs, q.trans e, r⟩
  | true => obtain ⟨xs, e, r⟩ := h; exact ⟨xs, q.trans e, r⟩
theorem OwnB.at {x : EB} (h : OwnB K w C H v x F) (q : ∀ a ∈ F, H' a = H a) : OwnB K w C H' v x F := by
  cases h with
  | dat h => exact .dat h
  | lst h1 h2 => exact .lst ((q _ List.mem_cons_self).trans h1) h2
  | dct h1 h2 h3 => exact .dct (h1.at (q _ List.mem_cons_self)) (h2.at fun a ha => q a (List.mem_cons_of_mem _ ha)) h3
theorem OwnF.at : ∀ {vs es F}, OwnF K w C H vs es F → (∀ a ∈ F, H' a = H a) → OwnF K w C H' vs es F := by
  intro vs es F h
  induction h with
  | nil => exact fun _ => .nil
  | cons h1 _ h3 ih => exact fun q => .cons (h1.at fun a ha => q a (List.mem_append_left _ ha)) (ih fun a ha => q a (List.mem_append_right _ ha)) h3
theorem Own.at {x : EV} (h : Own K w mg C H v x F) (q : ∀ a ∈ F, H' a = H a) : Own K w mg C H' v x F := by
  cases h with
  | b h => exact .b (h.at q)
  | opq => exact .opq
  | obj h1 h2 h3 h4 => exact .obj h1 ((q _ List.mem_cons_self).trans h2) (h3.at fun a ha => q a (List.mem_cons_of_mem _ ha)) h4
theorem OwnC.has : ∀ {ps kvs F}, OwnC K w C H ps kvs F → ∀ a ∈ F, H a ≠ none := by
  intro ps kvs F h
  induction h with
  | nil => exact fun _ z => nomatch z
  | cons h1 h2 _ ih => exact ih
  | consL h1 h2 h3 _ ih =>
    intro a ha
    rcases List.mem_cons.mp ha with rfl | ha
    · rw [h2]; exact fun z => nomatch z
    · exact ih a ha
theorem DcT.has {a : Addr} {t : Bool} {ps : List (DKey × V)} (h : DcT w H a t ps) : H a ≠ none := by
  cases t with
  | false => obtain ⟨kvs, e, r⟩ := h; rw [e]; exact fun z => nomatch z
  | true => obtain ⟨xs, e, r⟩ := h; rw [e]; exact fun z => nomatch z
theorem OwnB.has {x : EB} (h : OwnB K w C H v x F) : ∀ a ∈ F, H a ≠ none := by
  cases h with
  | dat h => exact fun _ z => nomatch z
  | lst h1 h2 =>
    intro a ha
    rcases List.mem_cons.mp ha with rfl | ha
    · rw [h1]; exact fun z => nomatch z
    · cases ha
  | dct h1 h2 h3 =>
    intro a ha
    rcases List.mem_cons.mp ha with rfl | ha
    · exact h1.has
    · exact h2.has a ha
theorem OwnF.has : ∀ {vs es F}, OwnF K w C H vs es F → ∀ a ∈ F, H a ≠ none := by
  intro vs es F h
  induction h with
  | nil => exact fun _ z => nomatch z
  | cons h1 _ h3 ih => exact fun a ha => (List.mem_append.mp ha).elim (h1.has a) (ih a)
theorem Own.has {x : EV} (h : Own K w mg C H v x F) : ∀ a ∈ F, H a ≠ none := by
  cases h with
  | b h => exact h.has
  | opq => exact fun _ z => nomatch z
  | obj h1 h2 h3 h4 =>
    intro a ha
    rcases List.mem_cons.mp ha with rfl | ha
    · rw [h2]; exact fun z => nomatch z
    · exact h3.has a ha
/-- the core with what was owned -/
def ov (C H : Hp) (F : List Addr) : Hp := fun a => if a ∈ F then H a else C a
theorem ov_core (h : ∀ a ∈ F, C a = none) : Same C (ov C H F) := fun a o e => by
  unfold ov
  by_cases ha : a ∈ F
  · rw [h a ha] at e; cases e
  · rw [if_neg ha]; exact e
theorem ov_heap (h : Same C H) : Same (ov C H F) H := fun a o e => by
  unfold ov at e
  by_cases ha : a ∈ F
  · rw [if_pos ha] at e; exact e
  · rw [if_neg ha] at e; exact h a o e
theorem ov_off {a : Addr} (h : a ∉ F) : ov C H F a = C a := by unfold ov; rw [if_neg h]
theorem ov_in {a : Addr} (h : a ∈ F) : ov C H F a = H a := by unfold ov; rw [if_pos h]
theorem OwnC.frz : ∀ {ps kvs F}, OwnC K w C H ps kvs F → Same C C' → (∀ a ∈ F, C' a = H a) → RpP K w C' ps (kvs.map fun p => (p.1, p.2.frz)) := by
  intro ps kvs F h e
  induction h with
  | nil => exact fun _ => .nil
  | @cons k v x ps kvs F h1 h2 _ ih =>
    intro q
    cases k with
    | k k => exact .consK (h2.up e) (ih q)
    | n k b => exact .consN ((h1 _ _ rfl).up e) (h2.up e) (ih q)
  | @consL k l vs xs ps kvs F h1 h2 h3 _ ih =>
    intro q
    have hl : Rp K w C' (.ref l) (.list xs) := .lst (.inl (.inl ((q l List.mem_cons_self).trans h2))) (h3.up e)
    have ht := ih fun a ha => q a (List.mem_cons_of_mem _ ha)
    cases k with
    | k k => exact .consK hl ht
    | n k b => exact .consN ((h1 _ _ rfl).up e) hl ht
theorem OwnB.frz {x : EB} (h : OwnB K w C H v x F) (hC : ∀ a ∈ F, C a = none) : Rp K w (ov C H F) v x.frz := by
  have e := ov_core (H := H) hC
  cases h with
  | dat h => exact h.up e
  | lst h1 h2 => exact .lst (.inl (.inl ((ov_in List.mem_cons_self).trans h1))) (h2.up e)
  | @dct a t ps kvs F h1 h2 h3 =>
    refine .dct (ps := ps) ?_ (h2.frz e fun a ha => ov_in (List.mem_cons_of_mem _ ha))
    have ha : ov C H (a :: F) a = H a := ov_in List.mem_cons_self
    cases t with
    | false => obtain ⟨kvs, e, _, _, r⟩ := h1; exact .inl ⟨kvs, ha.trans e, r⟩
    | true => obtain ⟨xs, e, r⟩ := h1; exact .inr ⟨xs, ha.trans e, r⟩
end
structure Ok (K : PySem.W.Frag) (w : World) (mg : Str → Option Value) (C H : Hp) (σ : Slots) (ρ : Envr) (φ : Ph) : Prop where
  ex : Same C H
  own : ∀ i ev, ρ[i]? = some (some ev) → ∃ v, σ[i]? = some (some v) ∧ Own K w mg C H v ev (φ i)
  off : ∀ i, (∀ ev, ρ[i]? ≠ some (some ev)) → φ i = []
  dis : ∀ i j a, a ∈ φ i → a ∈ φ j → i = j
  sep : ∀ i a, a ∈ φ i → C a = none
  len : ρ.length = σ.length
theorem Ok.has {K w mg C H σ ρ φ} (k : Ok K w mg C H σ ρ φ) {i : Nat} {a : Addr} (h : a ∈ φ i) : H a ≠ none := by
  rcases Classical.em (∃ ev, ρ[i]? = some (some ev)) with ⟨ev, e⟩ | n
  · obtain ⟨v, _, o⟩ := k.own i ev e
    exact o.has a h
  · rw [k.off i fun ev z => n ⟨ev, z⟩] at h
    cases h
structure Step (C H : Hp) (S : Addr → Prop) (C2 H2 : Hp) (S2 : Addr → Prop) : Prop where
  core : Same C C2
  keep : ∀ a o, H a = some o → ¬ S a → H2 a = some o
  off : ∀ a, H a ≠ none → C a = none → ¬ S a → C2 a = none ∧ ¬ S2 a
theorem Step.refl {C H : Hp} {S : Addr → Prop} : Step C H S C H S := ⟨Same.refl C, fun _ _ h _ => h, fun _ _ h n => ⟨h, n⟩⟩
theorem Step.trans {C H C2 H2 C3 H3 : Hp} {S S2 S3 : Addr → Prop} (a : Step C H S C2 H2 S2) (b : Step C2 H2 S2 C3 H3 S3) (sep : ∀ a, S2 a → C2 a = none) : Step C H S C3 H3 S3 where
  core := a.core.trans b.core
  keep := fun x o h n => by
    refine b.keep x o (a.keep x o h n) fun z => ?_
    cases q : C x with
    | some u => have := sep x z; rw [a.core x u q] at this; cases this
    | none => exact (a.off x (by rw [h]; exact fun z => nomatch z) q n).2 z
  off := fun x h c n => by
    obtain ⟨c2, n2⟩ := a.off x h c n
    refine b.off x ?_ c2 n2
    cases q : H x with
    | none => exact absurd q h
    | some o => rw [a.keep x o q n]; exact fun z => nomatch z
theorem Step.imp {C H C2 H2 : Hp} {S S2 S3 : Addr → Prop} (a : Step C H S C2 H2 S2) (h : ∀ x, S3 x → S2 x) : Step C H S C2 H2 S3 := ⟨a.core, a.keep, fun x h1 h2 h3 => ⟨(a.off x h1 h2 h3).1, fun z => (a.off x h1 h2 h3).2 (h x z)⟩⟩
/-- only new things: the core and the heap have grown, F (new) is owned -/
structure New (C H C2 H2 : Hp) (F : List Addr) : Prop where
  core : Same C C2
  heap : Same H H2
  ex : Same C2 H2
  fresh : ∀ a, H a ≠ none → C a = none → C2 a = none
  own : ∀ a ∈ F, H a = none ∧ C2 a = none
theorem New.refl {C H : Hp} (e : Same C H) : New C H C H [] := ⟨Same.refl C, Same.refl H, e, fun _ _ h => h, fun _ h => nomatch h⟩
theorem New.trans {C H C2 H2 C3 H3 : Hp} {F : List Addr} (a : New C H C2 H2 []) (b : New C2 H2 C3 H3 F) : New C H C3 H3 F where
  core := a.core.trans b.core
  heap := a.heap.trans b.heap
  ex := b.ex
  fresh := fun x h c => b.fresh x (by
    cases q : H x with
    | none => exact absurd q h
    | some o => rw [a.heap x o q]; exact fun z => nomatch z) (a.fresh x h c)
  own := fun x h => ⟨a.heap.free (b.own x h).1, (b.own x h).2⟩
theorem New.step {C H C2 H2 : Hp} {F : List Addr} {φ : Ph} (n : New C H C2 H2 F) : Step C H (Sof φ) C2 H2 (fun a => Sof φ a ∨ a ∈ F) where
  core := n.core
  keep := fun a o h _ => n.heap a o h
  off := fun a h c s => ⟨n.fresh a h c, fun z => z.elim s fun f => h (n.own a f).1⟩
theorem Ok.new {K w mg C H σ ρ φ C2 H2 F} (k : Ok K w mg C H σ ρ φ) (n : New C H C2 H2 F) : Ok K w mg C2 H2 σ ρ φ where
  ex := n.ex
  own := fun i ev e => by
    obtain ⟨v, e1, o⟩ := k.own i ev e
    refine ⟨v, e1, (o.up n.core).at fun a ha => ?_⟩
    cases q : H a with
    | none => exact absurd q (k.has ha)
    | some ob => exact n.heap a ob q
  off := k.off
  dis := k.dis
  sep := fun i a h => n.fresh a (k.has h) (k.sep i a h)
  len := k.len
theorem New.apart {K w mg C H σ ρ φ C2 H2 F} (k : Ok K w mg C H σ ρ φ) (n : New C H C2 H2 F) : ∀ a ∈ F, C2 a = none ∧ ¬ Sof φ a := fun a h => ⟨(n.own a h).2, fun ⟨i, z⟩ => k.has z (n.own a h).1⟩
theorem New.tup {C H : Hp} {p : Addr} {xs : List V} (e : Same C H) (h : H p = none) : New C H (upd C p (.tup xs)) (upd H p (.tup xs)) [] where
  core := fun a o q => by rw [upd_ne (ne_of_none (e a o q) h)]; exact q
  heap := fun a o q => by rw [upd_ne (ne_of_none q h)]; exact q
  ex := fun a o q => by
    by_cases z : a = p
    · subst z; rw [upd_same] at q ⊢; exact q
    · rw [upd_ne z] at q ⊢; exact e a o q
  fresh := fun a q c => by
    have z : a ≠ p := fun z => by subst z; exact q h
    rw [upd_ne z]; exact c
  own := fun _ z => nomatch z
theorem New.lst {C H : Hp} {p : Addr} {o : HO} (e : Same C H) (h : H p = none) : New C H C (upd H p o) [p] where
  core := Same.refl C
  heap := fun a o q => by rw [upd_ne (ne_of_none q h)]; exact q
  ex := fun a o q => by rw [upd_ne (ne_of_none (e a o q) h)]; exact e a o q
  fresh := fun a q c => c
  own := fun a z => by
    rcases List.mem_cons.mp z with rfl | z
    · exact ⟨h, e.free h⟩
    · cases z
/-- a thing that is not told -/
theorem New.lost {C H : Hp} {p : Addr} {o : HO} (e : Same C H) (h : H p = none) : New C H C (upd H p o) [] where
  core := Same.refl C
  heap := fun a o q => by rw [upd_ne (ne_of_none q h)]; exact q
  ex := fun a o q => by rw [upd_ne (ne_of_none (e a o q) h)]; exact e a o q
  fresh := fun a q c => c
  own := fun _ z => nomatch z
inductive RV where
  | d (x : PyData)
  | pl (i : Nat)
  | fld (i : Nat) (f : Str)
  | new (ev : EV)
def RvOk (X : Cx) (C H : Hp) (σ : Slots) (ρ : Envr) (v : V) (F : List Addr) : RV → Prop
  | .d x => Rp X.K X.w C v x ∧ F = []
  | .pl i => σ[i]? = some (some v) ∧ F = []
  | .fld i f => (∃ x dx Cc vs c es, σ[i]? = some (some (.ref x)) ∧ H x = some (.ins Cc dx vs) ∧ ρ[i]? = some (some (.obj c es)) ∧ vs.lookup f = some v) ∧ F = []
  | .new ev => Own X.K X.w X.mg C H v ev F
def look (ρ : Envr) : RV → Option EB
  | .d x => some (.dat x)
  | .pl i => match ρ[i]? with
    | some (some (.b e)) => some e
    | _ => none
  | .fld i f => match ρ[i]? with
    | some (some (.obj _ es)) => es.lookup f
    | _ => none
  | .new (.b e) => some e
  | .new _ => none
abbrev OkX (X : Cx) (C H : Hp) (σ : Slots) (ρ : Envr) (φ : Ph) : Prop := Ok X.K X.w X.mg C H σ ρ φ
theorem OwnF.look {K w C H} {f : Str} {v : V} {e : EB} : ∀ {vs es F}, OwnF K w C H vs es F → es.lookup f = some e → vs.lookup f = some v → ∃ G, OwnB K w C H v e G ∧ ∀ a ∈ G, a ∈ F := by
  intro vs es F h
  induction h with
  | nil => intro h1; cases h1
  | @cons g v' e' vs es F G h1 _ _ ih =>
    intro q1 q2
    rw [List.lookup_cons] at q1 q2
    cases z : (f == g) with
    | true =>
      rw [z] at q1 q2
      cases q1; cases q2
      exact ⟨F, h1, fun a ha => List.mem_append_left _ ha⟩
    | false =>
      rw [z] at q1 q2
      obtain ⟨G', o, hs⟩ := ih q1 q2
      exact ⟨G', o, fun a ha => List.mem_append_right _ (hs a ha)⟩
theorem OwnF.keys {K w C H} {f : Str} : ∀ {vs es F}, OwnF K w C H vs es F → ∀ {e : EB}, es.lookup f = some e → ∃ v, vs.lookup f = some v := by
  intro vs es F h
  induction h with
  | nil => intro e h1; cases h1
  | @cons g v' e' vs es F G h1 _ _ ih =>
    intro e q1
    rw [List.lookup_cons] at q1 ⊢
    cases z : (f == g) with
    | true => exact ⟨_, rfl⟩
    | false => rw [z] at q1; exact ih q1
/-- a value seen as a thing -/
def View (X : Cx) (C H : Hp) (v : V) (e : EB) : Prop := ∃ G, OwnB X.K X.w C H v e G ∧ ∀ a ∈ G, C a = none
theorem RvOk.view {X : Cx} {C H σ ρ φ v F rv e} (k : OkX X C H σ ρ φ) (sepF : ∀ a ∈ F, C a = none) (h : RvOk X C H σ ρ v F rv) (l : look ρ rv = some e) : View X C H v e := by
  cases rv with
  | d x =>
    obtain ⟨h, rfl⟩ := h
    cases l
    exact ⟨[], .dat h, fun _ z => nomatch z⟩
  | pl i =>
    obtain ⟨h1, rfl⟩ := h
    change (match ρ[i]? with
      | some (some (.b e)) => some e
      | _ => none) = some e at l
    split at l
    · rename_i e' h2
      cases l
      obtain ⟨v', e1, o⟩ := k.own i _ h2
      rw [h1] at e1; cases e1
      cases o with
      | b o => exact ⟨_, o, k.sep i⟩
    · cases l
  | fld i f =>
    obtain ⟨⟨x, dx, Cc, vs, c, es, h1, h2, h3, h4⟩, rfl⟩ := h
    unfold Ac.look at l
    simp only [h3] at l
    obtain ⟨v', e1, o⟩ := k.own i _ h3
    rw [h1] at e1; cases e1
    generalize hG : φ i = G at o
    cases o with
    | @obj x dx' Cc' c vs' es' F' g1 g2 g3 g4 =>
      rw [h2] at g2; cases g2
      obtain ⟨G', o, hs⟩ := g3.look l h4
      exact ⟨G', o, fun a ha => k.sep i a (by rw [hG]; exact List.mem_cons_of_mem _ (hs a ha))⟩
  | new ev =>
    cases ev with
    | b e' =>
      cases l
      have h : Own X.K X.w X.mg C H v (.b e) F := h
      cases h with
      | b o => exact ⟨F, o, sepF⟩
    | obj c es => cases l
    | opq _ => cases l
/-- results stay while only new things come -/
theorem RvOk.new {X : Cx} {C H σ ρ v F rv C2 H2 G} (n : New C H C2 H2 G) (h : RvOk X C H σ ρ v F rv) : RvOk X C2 H2 σ ρ v F rv := by
  cases rv with
  | d x => exact ⟨h.1.up n.core, h.2⟩
  | pl i => exact h
  | fld i f =>
    obtain ⟨⟨x, dx, Cc, vs, c, es, h1, h2, h3, h4⟩, rfl⟩ := h
    exact ⟨⟨x, dx, Cc, vs, c, es, h1, n.heap _ _ h2, h3, h4⟩, rfl⟩
  | new ev =>
    have h : Own X.K X.w X.mg C H v ev F := h
    refine (h.up n.core).at fun a ha => ?_
    cases q : H a with
    | none => exact absurd q (h.has a ha)
    | some ob => exact n.heap a ob q
/-- new things frozen -/
theorem New.frz {C H C2 H2 : Hp} {F : List Addr} (n : New C H C2 H2 F) : New C H (ov C2 H2 F) H2 [] where
  core := n.core.trans (ov_core fun a h => (n.own a h).2)
  heap := n.heap
  ex := ov_heap n.ex
  fresh := fun a h c => by
    rw [ov_off fun z => h (n.own a z).1]
    exact n.fresh a h c
  own := fun _ z => nomatch z
/-- pure expressions: the names stay -/
abbrev QN := RV → Prop
abbrev XN := Str → Prop
abbrev MN := Envr → QN → XN → Prop
def XPostN (X : Cx) (W : WX) (R : XN) (C H : Hp) (σ : Slots) : Prop := ∀ c a C2 H2, R c → New C H C2 H2 [] → X.mg c = some (.ref a) → W (.ref a) none σ H2
def NPost (X : Cx) (Q : QN) (C H : Hp) (σ : Slots) (ρ : Envr) (QQ : VK) : Prop := ∀ rv v C2 H2 F, Q rv → New C H C2 H2 F → RvOk X C2 H2 σ ρ v F rv → QQ v H2
structure TrN (X : Cx) (W : WX) (e : Expr) (m : MN) : Prop where
  run : ∀ (C H : Hp) (σ : Slots) (ρ : Envr) (φ : Ph) (Q : QN) (R : XN) (QQ : VK), OkX X C H σ ρ φ → m ρ Q R → NPost X Q C H σ ρ QQ → XPostN X W R C H σ → WE X e σ H QQ
theorem XPostN.new {X : Cx} {W : WX} {R : XN} {C H : Hp} {σ : Slots} {C2 H2 : Hp} (x : XPostN X W R C H σ) (n : New C H C2 H2 []) : XPostN X W R C2 H2 σ := fun c a C3 H3 r m e => x c a C3 H3 r (n.trans m) e
/-- several pure ones: no new owned thing is handed on (it is frozen) -/
inductive RvsOk (X : Cx) (C H : Hp) (σ : Slots) (ρ : Envr) : List V → List RV → Prop where
  | nil : RvsOk X C H σ ρ [] []
  | cons {v : V} {rv : RV} {vs : List V} {rvs : List RV} : RvOk X C H σ ρ v [] rv → RvsOk X C H σ ρ vs rvs → RvsOk X C H σ ρ (v :: vs) (rv :: rvs)
theorem RvsOk.new {X : Cx} {C H σ ρ C2 H2 G} (n : New C H C2 H2 G) {vs rvs} (h : RvsOk X C H σ ρ vs rvs) : RvsOk X C2 H2 σ ρ vs rvs := by
  induction h with
  | nil => exact .nil
  | cons h _ ih => exact .cons (h.new n) ih
abbrev MAN := Envr → (List RV → Prop) → XN → Prop
def ANPost (X : Cx) (n : Nat) (Q : List RV → Prop) (C H : Hp) (σ : Slots) (ρ : Envr) (QQ : List V → Hp → Prop) : Prop := ∀ rvs vs C2 H2, Q rvs → New C H C2 H2 [] → RvsOk X C2 H2 σ ρ vs rvs → vs.length = n → QQ vs H2
structure TrAN (X : Cx) (W : WX) (es : List Expr) (m : MAN) : Prop where
  run : ∀ (C H : Hp) (σ : Slots) (ρ : Envr) (φ : Ph) (Q : List RV → Prop) (R : XN) (QQ : List V → Hp → Prop), OkX X C H σ ρ φ → m ρ Q R → ANPost X es.length Q C H σ ρ QQ → XPostN X W R C H σ → WA X es σ H QQ
/-- a new thing frozen -/
def opn : RV → Option RV
  | .new (.b e) => some (.d e.frz)
  | .new _ => none
  | rv => some rv
theorem opn_ok {X : Cx} {C H C2 H2 σ ρ v F rv rv'} (n : New C H C2 H2 F) (h : RvOk X C2 H2 σ ρ v F rv) (e : opn rv = some rv') : ∃ C3, New C H C3 H2 [] ∧ RvOk X C3 H2 σ ρ v [] rv' := by
  cases rv with
  | d x => obtain ⟨h, rfl⟩ := h; cases e; exact ⟨C2, n, h, rfl⟩
  | pl i => obtain ⟨h, rfl⟩ := h; cases e; exact ⟨C2, n, h, rfl⟩
  | fld i f => obtain ⟨h, rfl⟩ := h; cases e; exact ⟨C2, n, h, rfl⟩
  | new ev =>
    cases ev with
    | b e' =>
      cases e
      have h : Own X.K X.w X.mg C2 H2 v (.b e') F := h
      cases h with
      | b o => exact ⟨_, n.frz, o.frz fun a ha => (n.own a ha).2, rfl⟩
    | obj c es => cases e
    | opq _ => cases e
/-- general expressions -/
abbrev QE := RV → Envr → Prop
abbrev RX := Str → Envr → Prop
abbrev ME := Envr → QE → RX → Prop
abbrev MT := Envr → (Bool → Envr → Prop) → RX → Prop
/-- what lies behind an exception -/
def XPost (X : Cx) (W : WX) (R : RX) (C H : Hp) (σ : Slots) (φ : Ph) : Prop :=
  ∀ c ρ2 a C2 H2 φ2, R c ρ2 → OkX X C2 H2 σ ρ2 φ2 → Step C H (Sof φ) C2 H2 (Sof φ2) → X.mg c = some (.ref a) → W (.ref a) none σ H2
theorem XPost.step {X : Cx} {W : WX} {R : RX} {C H : Hp} {σ : Slots} {φ : Ph} {C2 H2 : Hp} {φ2 : Ph} (x : XPost X W R C H σ φ) (s : Step C H (Sof φ) C2 H2 (Sof φ2)) (sep : ∀ a, Sof φ2 a → C2 a = none) : XPost X W R C2 H2 σ φ2 :=
  fun c ρ2 a C3 H3 φ3 r k t m => x c ρ2 a C3 H3 φ3 r k (s.trans t sep) m
theorem Ok.sepS {K w mg C H σ ρ φ} (k : Ok K w mg C H σ ρ φ) : ∀ a, Sof φ a → C a = none := fun a ⟨i, h⟩ => k.sep i a h
def EPost (X : Cx) (Q : QE) (C H : Hp) (σ : Slots) (φ : Ph) (QQ : VK) : Prop :=
  ∀ rv ρ2 v C2 H2 φ2 F, Q rv ρ2 → OkX X C2 H2 σ ρ2 φ2 → Step C H (Sof φ) C2 H2 (fun a => Sof φ2 a ∨ a ∈ F) → RvOk X C2 H2 σ ρ2 v F rv → (∀ a ∈ F, C2 a = none ∧ ¬ Sof φ2 a) → QQ v H2
structure TrE (X : Cx) (W : WX) (e : Expr) (m : ME) : Prop where
  run : ∀ (C H : Hp) (σ : Slots) (ρ : Envr) (φ : Ph) (Q : QE) (R : RX) (QQ : VK), OkX X C H σ ρ φ → m ρ Q R → EPost X Q C H σ φ QQ → XPost X W R C H σ φ → WE X e σ H QQ
def TPost (X : Cx) (Q : Bool → Envr → Prop) (C H : Hp) (σ : Slots) (φ : Ph) (QQ : Bool → Hp → Prop) : Prop :=
  ∀ b ρ2 C2 H2 φ2, Q b ρ2 → OkX X C2 H2 σ ρ2 φ2 → Step C H (Sof φ) C2 H2 (Sof φ2) → QQ b H2
structure TrT (X : Cx) (W : WX) (e : Expr) (m : MT) : Prop where
  run : ∀ (C H : Hp) (σ : Slots) (ρ : Envr) (φ : Ph) (Q : Bool → Envr → Prop) (R : RX) (QQ : Bool → Hp → Prop), OkX X C H σ ρ φ → m ρ Q R → TPost X Q C H σ φ QQ → XPost X W R C H σ φ → WT X e σ H QQ
/-- a pure one is one -/
def mUp (m : MN) : ME := fun ρ Q R => m ρ (fun rv => Q rv ρ) (fun c => R c ρ)
theorem Step.none {C H C2 H2 : Hp} {φ : Ph} (n : New C H C2 H2 []) : Step C H (Sof φ) C2 H2 (Sof φ) := n.step.imp fun _ z => .inl z
theorem XPost.pure {X : Cx} {W : WX} {R : RX} {C H : Hp} {σ : Slots} {ρ : Envr} {φ : Ph} (k : OkX X C H σ ρ φ) (x : XPost X W R C H σ φ) : XPostN X W (fun c => R c ρ) C H σ :=
  fun c a C2 H2 r n m => x c ρ a C2 H2 φ r (k.new n) (Step.none n) m
theorem TrN.up {X : Cx} {W : WX} {e : Expr} {m : MN} (h : TrN X W e m) : TrE X W e (mUp m) :=
  ⟨fun C H σ ρ φ Q R QQ k q p x => h.run C H σ ρ φ _ _ QQ k q (fun rv v C2 H2 F q n r => p rv ρ v C2 H2 φ F q (k.new n) n.step r (n.apart k)) (XPost.pure k x)⟩
end Ac
set_option Elab.async false
set_option linter.all false
set_option maxRecDepth 100000
set_option maxHeartbeats 2000000
namespace Ac
open PySem PySem.Spec PyProof.Rows L2
def kOpn : RV → (RV → Prop) → Prop
  | .new (.b e), k => k (.d e.frz)
  | .new _, _ => False
  | .d x, k => k (.d x)
  | .pl i, k => k (.pl i)
  | .fld i f, k => k (.fld i f)
def kLook (ρ : Envr) (rv : RV) (k : EB → Prop) : Prop := match look ρ rv with
  | some e => k e
  | none => False
theorem kOpn.of {rv : RV} {k : RV → Prop} (h : kOpn rv k) : ∃ rv', opn rv = some rv' ∧ k rv' := by
  cases rv with
  | d x => exact ⟨_, rfl, h⟩
  | pl i => exact ⟨_, rfl, h⟩
  | fld i f => exact ⟨_, rfl, h⟩
  | new ev => cases ev with
    | b e => exact ⟨_, rfl, h⟩
    | obj c es => exact h.elim
    | opq _ => exact h.elim
theorem kLook.of {ρ : Envr} {rv : RV} {k : EB → Prop} (h : kLook ρ rv k) : ∃ e, look ρ rv = some e ∧ k e := by
  unfold kLook at h
  split at h
  · exact ⟨_, by assumption, h⟩
  · exact h.elim
def mC (x : PyData) : MN := fun _ Q _ => Q (.d x)
def rvAt (i : Nat) : EV → RV
  | .dat x => .d x
  | _ => .pl i
def mVar (i : Nat) : MN := fun ρ Q _ => match ρ[i]? with
  | some (some ev) => Q (rvAt i ev)
  | _ => False
def rvFld (i : Nat) (f : Str) : EB → RV
  | .dat x => .d x
  | _ => .fld i f
/-- a field of the object in a slot -/
def mFld (i : Nat) (f : Str) : MN := fun ρ Q _ => match ρ[i]? with
  | some (some (.obj _ es)) => (match es.lookup f with
    | some e => Q (rvFld i f e)
    | none => False)
  | _ => False
abbrev F1 := EB → QN → Prop
abbrev F2 := EB → EB → QN → Prop
abbrev FL := List EB → QN → Prop
def m1 (f : F1) (a : MN) : MN := fun ρ Q R => a ρ (fun ra => kOpn ra fun ra => kLook ρ ra fun ea => f ea Q) R
def m2 (f : F2) (a b : MN) : MN := fun ρ Q R => a ρ (fun ra => kOpn ra fun ra => b ρ (fun rb => kOpn rb fun rb => kLook ρ ra fun ea => kLook ρ rb fun eb => f ea eb Q) R) R
def mA : List MN → MAN
  | [] => fun _ Q _ => Q []
  | m :: ms => fun ρ Q R => m ρ (fun r => kOpn r fun r => mA ms ρ (fun rs => Q (r :: rs)) R) R
def kLooks (ρ : Envr) : List RV → (List EB → Prop) → Prop
  | [], k => k []
  | r :: rs, k => kLook ρ r fun e => kLooks ρ rs fun es => k (e :: es)
def mL (f : FL) (ms : List MN) : MN := fun ρ Q R => mA ms ρ (fun rs => kLooks ρ rs fun es => f es Q) R
section
variable {X : Cx} {W : WX} {pos : Pos} {a b e : Expr} {es : List Expr} {ma mb : MN} {ms : List MN}
inductive Views (X : Cx) (C H : Hp) : List V → List EB → Prop where
  | nil : Views X C H [] []
  | cons {v : V} {e : EB} {vs : List V} {es : List EB} : View X C H v e → Views X C H vs es → Views X C H (v :: vs) (e :: es)
def RvPu (X : Cx) (C H : Hp) (v : V) (F : List Addr) : RV → Prop
  | .d x => Rp X.K X.w C v x ∧ F = []
  | .new ev => Own X.K X.w X.mg C H v ev F
  | _ => False
theorem RvPu.ok {C H : Hp} {v : V} {F : List Addr} {rv : RV} (h : RvPu X C H v F rv) (σ : Slots) (ρ : Envr) : RvOk X C H σ ρ v F rv := by
  cases rv with
  | d x => exact h
  | new ev => exact h
  | pl i => exact h.elim
  | fld i f => exact h.elim
def PuPost (X : Cx) (Q : QN) (C H : Hp) (QQ : VK) : Prop := ∀ rv v C2 H2 F, Q rv → New C H C2 H2 F → RvPu X C2 H2 v F rv → QQ v H2
def Pu2 (X : Cx) (r : R2) (f : F2) : Prop := ∀ (C H : Hp) (x y : V) (ex ey : EB) (Q : QN) (QQ : VK), Same C H → View X C H x ex → View X C H y ey → f ex ey Q → PuPost X Q C H QQ → r x y H QQ
def Pu1 (X : Cx) (r : V → Hp → VK → Prop) (f : F1) : Prop := ∀ (C H : Hp) (x : V) (ex : EB) (Q : QN) (QQ : VK), Same C H → View X C H x ex → f ex Q → PuPost X Q C H QQ → r x H QQ
def PuL (X : Cx) (r : List V → Hp → VK → Prop) (f : FL) : Prop := ∀ (C H : Hp) (xs : List V) (es : List EB) (Q : QN) (QQ : VK), Same C H → Views X C H xs es → f es Q → PuPost X Q C H QQ → r xs H QQ
theorem Pu2.or {r r' : R2} {f f' : F2} (h : Pu2 X r f) (h' : Pu2 X r' f') : Pu2 X (fun x y H Q => r x y H Q ∨ r' x y H Q) (fun a b Q => f a b Q ∨ f' a b Q) := fun C H x y ex ey Q QQ e v1 v2 q p =>
  q.elim (fun q => .inl (h C H x y ex ey Q QQ e v1 v2 q p)) fun q => .inr (h' C H x y ex ey Q QQ e v1 v2 q p)
theorem View.same {C H C2 H2 : Hp} {G : List Addr} {v : V} {e : EB} (n : New C H C2 H2 G) (h : View X C H v e) : View X C2 H2 v e := by
  obtain ⟨F, o, s⟩ := h
  refine ⟨F, (o.up n.core).at fun a ha => ?_, fun a ha => n.fresh a (o.has a ha) (s a ha)⟩
  cases q : H a with
  | none => exact absurd q (o.has a ha)
  | some ob => exact n.heap a ob q
theorem View.dat {C H : Hp} {v : V} {x : PyData} (h : View X C H v (.dat x)) : Rp X.K X.w C v x := by
  obtain ⟨F, o, _⟩ := h
  cases o with
  | dat h => exact h
theorem View.int {C H : Hp} {v : V} {i : Int} (h : View X C H v (.dat (.int i))) : v = .int i := by cases h.dat; rfl
theorem View.str {C H : Hp} {v : V} {i : Str} (h : View X C H v (.dat (.str i))) : v = .str i := by cases h.dat; rfl
theorem View.bl {C H : Hp} {v : V} {i : Bool} (h : View X C H v (.dat (.bool i))) : v = .bl i := by cases h.dat; rfl
theorem View.non {C H : Hp} {v : V} (h : View X C H v (.dat .none)) : v = .non := by cases h.dat; rfl
/-- frozen -/
theorem View.frz {C H : Hp} {v : V} {e : EB} (ex : Same C H) (h : View X C H v e) : ∃ F, Rp X.K X.w (ov C H F) v e.frz ∧ Same C (ov C H F) ∧ Same (ov C H F) H := by
  obtain ⟨F, o, s⟩ := h
  exact ⟨F, o.frz s, ov_core s, ov_heap ex⟩
theorem tn_int {i : Int} {j} : TrN X W (.Constant (.int i) j pos) (mC (.int i)) := ⟨fun C H σ ρ φ Q R QQ k q p x => pe_int.to (p _ _ C H [] q (New.refl k.ex) ⟨.int i, rfl⟩)⟩
theorem tn_str {x : Str} {j} : TrN X W (.Constant (.str x) j pos) (mC (.str x)) := ⟨fun C H σ ρ φ Q R QQ k q p _ => pe_str.to (p _ _ C H [] q (New.refl k.ex) ⟨.str x, rfl⟩)⟩
theorem tn_bl {x : Bool} {j} : TrN X W (.Constant (.bool x) j pos) (mC (.bool x)) := ⟨fun C H σ ρ φ Q R QQ k q p _ => pe_bl.to (p _ _ C H [] q (New.refl k.ex) ⟨.bl x, rfl⟩)⟩
theorem tn_non {j} : TrN X W (.Constant .none j pos) (mC .none) := ⟨fun C H σ ρ φ Q R QQ k q p _ => pe_non.to (p _ _ C H [] q (New.refl k.ex) ⟨.non, rfl⟩)⟩
theorem Own.dat_inv {K w mg C H v x F} (h : Own K w mg C H v (.dat x) F) : Rp K w C v x ∧ F = [] := by
  cases h with
  | b h => cases h with
    | dat h => exact ⟨h, rfl⟩
theorem tn_var (i : Nat) {x : Str} (hN : X.N[i]? = some x := by rfl) (hv : Vis X.env.scope x := by first | exact Or.inl rfl | exact Or.inr (Or.inl rfl) | exact Or.inr (Or.inr rfl)) (hd : (x == ("__debug__" : Str)) = false := by decide)
    (hcd : (x == ("__classdict__" : Str)) = false := by decide) : TrN X W (.Name x pos) (mVar i) := by
  refine ⟨fun C H σ ρ φ Q R QQ k q p _ => (pe_var hN hv hd hcd).to ?_⟩
  unfold mVar at q
  split at q
  · rename_i ev he
    obtain ⟨v, e1, o⟩ := k.own i ev he
    refine ⟨v, e1, ?_⟩
    unfold rvAt at q
    split at q
    · rename_i x
      obtain ⟨h, _⟩ := o.dat_inv
      exact p _ v C H [] q (New.refl k.ex) ⟨h, rfl⟩
    · exact p _ v C H [] q (New.refl k.ex) ⟨e1, rfl⟩
  · exact q.elim
/-- a constant of the module -/
theorem tn_globI {x : Str} {i : Int} {u : Value} (hg : Gl X x) (hm : X.mg x = some u) (r : RelV (.int i) u) (hd : (x == ("__debug__" : Str)) = false := by decide) : TrN X W (.Name x pos) (mC (.int i)) :=
  ⟨fun C H σ ρ φ Q R QQ k q p _ => (pe_glob hg hm r hd).to (p _ _ C H [] q (New.refl k.ex) ⟨.int i, rfl⟩)⟩
theorem tn_globS {x z : Str} {u : Value} (hg : Gl X x) (hm : X.mg x = some u) (r : RelV (.str z) u) (hd : (x == ("__debug__" : Str)) = false := by decide) : TrN X W (.Name x pos) (mC (.str z)) :=
  ⟨fun C H σ ρ φ Q R QQ k q p _ => (pe_glob hg hm r hd).to (p _ _ C H [] q (New.refl k.ex) ⟨.str z, rfl⟩)⟩
theorem tn_2 {r : R2} {f : F2} (hf : Pu2 X r f) (ha : TrN X W a ma) (hb : TrN X W b mb) {e : Expr} (he : ∀ ta tb, PE X a ta → PE X b tb → PE X e (tOp r ta tb)) : TrN X W e (m2 f ma mb) := by
  refine ⟨fun C H σ ρ φ Q R QQ k q p x => (he _ _ (pe_w a) (pe_w b)).to ?_⟩
  refine ha.run C H σ ρ φ _ R _ k q (fun ra v C1 H1 F q1 n1 r1 => ?_) x
  obtain ⟨ra', o1, q1⟩ := q1.of
  obtain ⟨C1', n1, r1⟩ := opn_ok n1 r1 o1
  refine hb.run C1' H1 σ ρ φ _ R _ (k.new n1) q1 (fun rb u C2 H2 F2 q2 n2 r2 => ?_) (x.new n1)
  obtain ⟨rb', o2, q2⟩ := q2.of
  obtain ⟨C2', n2, r2⟩ := opn_ok n2 r2 o2
  obtain ⟨ea, l1, q2⟩ := q2.of
  obtain ⟨eb, l2, q2⟩ := q2.of
  have k2 := (k.new n1).new n2
  refine hf C2' H2 v u ea eb Q QQ k2.ex ((r1.new n2).view (F := []) k2 (fun _ z => nomatch z) l1) (r2.view (F := []) k2 (fun _ z => nomatch z) l2) q2 fun rv v C3 H3 F q n r => ?_
  exact p rv v C3 H3 F q ((n1.trans n2).trans n) (r.ok σ ρ)
theorem tn_1 {r : V → Hp → VK → Prop} {f : F1} (hf : Pu1 X r f) (ha : TrN X W a ma) {e : Expr} (he : ∀ ta, PE X a ta → PE X e (tUn r ta)) : TrN X W e (m1 f ma) := by
  refine ⟨fun C H σ ρ φ Q R QQ k q p x => (he _ (pe_w a)).to ?_⟩
  refine ha.run C H σ ρ φ _ R _ k q (fun ra v C1 H1 F q1 n1 r1 => ?_) x
  obtain ⟨ra', o1, q1⟩ := q1.of
  obtain ⟨C1', n1, r1⟩ := opn_ok n1 r1 o1
  obtain ⟨ea, l1, q1⟩ := q1.of
  have k1 := k.new n1
  refine hf C1' H1 v ea Q QQ k1.ex (r1.view (F := []) k1 (fun _ z => nomatch z) l1) q1 fun rv v C3 H3 F q n r => ?_
  exact p rv v C3 H3 F q (n1.trans n) (r.ok σ ρ)
theorem ta_nil : TrAN X W [] (mA []) := ⟨fun C H σ ρ φ Q R QQ k q p x => pa_nil.to (p [] [] C H q (New.refl k.ex) .nil rfl)⟩
theorem ta_cons (he : TrN X W e ma) (hr : TrAN X W es (mA ms)) (hs : starEach (e :: es) X.env = (false, eval e X.env) :: starEach es X.env := by rfl) : TrAN X W (e :: es) (mA (ma :: ms)) := by
  refine ⟨fun C H σ ρ φ Q R QQ k q p x => (pa_cons (pe_w e) (pa_w es) hs).to ?_⟩
  refine he.run C H σ ρ φ _ R _ k q (fun ra v C1 H1 F q1 n1 r1 => ?_) x
  obtain ⟨ra', o1, q1⟩ := q1.of
  obtain ⟨C1', n1, r1⟩ := opn_ok n1 r1 o1
  refine hr.run C1' H1 σ ρ φ _ R _ (k.new n1) q1 (fun rvs vs C2 H2 q2 n2 r2 hl => ?_) (x.new n1)
  exact p (ra' :: rvs) (v :: vs) C2 H2 q2 (n1.trans n2) (.cons (r1.new n2) r2) (by simp [hl])
theorem kLooks.of {ρ : Envr} : ∀ {rvs : List RV} {k : List EB → Prop}, kLooks ρ rvs k → ∃ es, rvs.length = es.length ∧ (∀ (i : Nat) (rv : RV), rvs[i]? = some rv → ∃ e, es[i]? = some e ∧ look ρ rv = some e) ∧ k es
  | [], k, h => ⟨[], rfl, fun i rv z => by simp at z, h⟩
  | r :: rs, k, h => by
    obtain ⟨e, l, h⟩ := kLook.of h
    obtain ⟨es, h1, h2, h3⟩ := kLooks.of h
    refine ⟨e :: es, by simp [h1], fun i rv z => ?_, h3⟩
    cases i with
    | zero => simp at z; subst z; exact ⟨e, rfl, l⟩
    | succ i => obtain ⟨e', q1, q2⟩ := h2 i rv (by simpa using z); exact ⟨e', by simpa using q1, q2⟩
theorem RvsOk.views {C H σ ρ φ} (k : OkX X C H σ ρ φ) {vs : List V} {rvs : List RV} (h : RvsOk X C H σ ρ vs rvs) : ∀ {es : List EB}, rvs.length = es.length → (∀ (i : Nat) (rv : RV), rvs[i]? = some rv → ∃ e, es[i]? = some e ∧ look ρ rv = some e) → Views X C H vs es := by
  induction h with
  | nil =>
    intro es h _
    cases es with
    | nil => exact .nil
    | cons _ _ => simp at h
  | cons r t ih =>
    intro es h g
    cases es with
    | nil => simp at h
    | cons e es =>
      obtain ⟨e', q1, q2⟩ := g 0 _ rfl
      have e1 : e = e' := Option.some.inj q1
      subst e1
      refine .cons (r.view (F := []) k (fun _ z => nomatch z) q2) (ih (by simpa using h) fun i rv z => ?_)
      obtain ⟨e', q1, q2⟩ := g (i + 1) rv (by simpa using z)
      exact ⟨e', by simpa using q1, q2⟩
theorem tn_L {r : List V → Hp → VK → Prop} {f : FL} (hf : PuL X r f) (ha : TrAN X W es (mA ms)) {e : Expr} (he : ∀ ta, PA X es ta → PE X e (tCB r ta)) : TrN X W e (mL f ms) := by
  refine ⟨fun C H σ ρ φ Q R QQ k q p x => (he _ (pa_w es)).to ?_⟩
  refine ha.run C H σ ρ φ _ R _ k q (fun rvs vs C1 H1 q1 n1 r1 _ => ?_) x
  obtain ⟨es, h1, h2, q1⟩ := q1.of
  have k1 := k.new n1
  refine hf C1 H1 vs es Q QQ k1.ex (r1.views k1 h1 h2) q1 fun rv v C3 H3 F q n r => ?_
  exact p rv v C3 H3 F q (n1.trans n) (r.ok σ ρ)
/-- nothing new comes: a plain value -/
theorem PuPost.val {Q : QN} {C H : Hp} {QQ : VK} (e : Same C H) {v : V} {x : PyData} (p : PuPost X Q C H QQ) (q : Q (.d x)) (r : Rp X.K X.w C v x) : QQ v H := p _ v C H [] q (New.refl e) ⟨r, rfl⟩
def fI (c : Int → Int → Prop) (g : Int → Int → PyData) : F2 := fun a b Q => match a, b with
  | .dat (.int i), .dat (.int j) => c i j ∧ Q (.d (g i j))
  | _, _ => False
def fI0 (g : Int → Int → PyData) : F2 := fun a b Q => match a, b with
  | .dat (.int i), .dat (.int j) => Q (.d (g i j))
  | _, _ => False
theorem fI.of {c g a b Q} (h : fI c g a b Q) : ∃ i j, a = .dat (.int i) ∧ b = .dat (.int j) ∧ c i j ∧ Q (.d (g i j)) := by
  unfold fI at h
  split at h
  · exact ⟨_, _, rfl, rfl, h⟩
  · exact h.elim
theorem fI0.of {g a b Q} (h : fI0 g a b Q) : ∃ i j, a = .dat (.int i) ∧ b = .dat (.int j) ∧ Q (.d (g i j)) := by
  unfold fI0 at h
  split at h
  · exact ⟨_, _, rfl, rfl, h⟩
  · exact h.elim
theorem pu_I {c : Int → Int → Prop} {g : Int → Int → V} {g' : Int → Int → PyData} (hg : ∀ i j C, Rp X.K X.w C (g i j) (g' i j)) : Pu2 X (rI c g) (fI c g') := fun C H x y ex ey Q QQ e v1 v2 q p => by
  obtain ⟨i, j, rfl, rfl, hc, q⟩ := q.of
  exact ⟨i, j, v1.int, v2.int, hc, p.val e q (hg i j C)⟩
theorem pu_I0 {g : Int → Int → V} {g' : Int → Int → PyData} (hg : ∀ i j C, Rp X.K X.w C (g i j) (g' i j)) : Pu2 X (rI0 g) (fI0 g') := fun C H x y ex ey Q QQ e v1 v2 q p => by
  obtain ⟨i, j, rfl, rfl, q⟩ := q.of
  exact ⟨i, j, v1.int, v2.int, p.val e q (hg i j C)⟩
/-- a divisor of either sign -/
def CDivZ (_ j : Int) : Prop := j ≠ 0 ∧ j.natAbs.log2 < 9000
theorem op_fdivZ : OpR X (binaryOp .FloorDiv) (rI CDivZ fun i j => .int (i.fdiv j)) := opI fun _ _ _ _ _ _ _ hc q => floordiv_int hc.1 q (.inl (PyProof.noPylong_of_log2 hc.2))
theorem tn_sub (ha : TrN X W a ma) (hb : TrN X W b mb) : TrN X W (.BinOp a .Sub b pos) (m2 (fI0 fun i j => .int (i - j)) ma mb) := tn_2 (pu_I0 fun i j C => .int _) ha hb fun _ _ => pe_op op_sub
theorem tn_mul (ha : TrN X W a ma) (hb : TrN X W b mb) : TrN X W (.BinOp a .Mult b pos) (m2 (fI CMulX fun i j => .int (i * j)) ma mb) := tn_2 (pu_I fun i j C => .int _) ha hb fun _ _ => pe_op op_mulX
theorem tn_fdiv (ha : TrN X W a ma) (hb : TrN X W b mb) : TrN X W (.BinOp a .FloorDiv b pos) (m2 (fI CDivZ fun i j => .int (i.fdiv j)) ma mb) := tn_2 (pu_I fun i j C => .int _) ha hb fun _ _ => pe_op op_fdivZ
theorem tn_mod (ha : TrN X W a ma) (hb : TrN X W b mb) : TrN X W (.BinOp a .Mod b pos) (m2 (fI (fun _ j => j ≠ 0) fun i j => .int (i.fmod j)) ma mb) := tn_2 (pu_I fun i j C => .int _) ha hb fun _ _ => pe_op op_modN
theorem tn_pow (ha : TrN X W a ma) (hb : TrN X W b mb) : TrN X W (.BinOp a .Pow b pos) (m2 (fI CPow fun i j => .int (i ^ j.toNat)) ma mb) := tn_2 (pu_I fun i j C => .int _) ha hb fun _ _ => pe_op op_pow
def fNeg : F1 := fun a Q => match a with
  | .dat (.int i) => Q (.d (.int (-i)))
  | _ => False
theorem tn_neg (ha : TrN X W a ma) : TrN X W (.UnaryOp .USub a pos) (m1 fNeg ma) := tn_1 (fun C H x ex Q QQ e v q p => by
  unfold fNeg at q
  split at q
  · exact ⟨_, v.int, p.val e q (.int _)⟩
  · exact q.elim) ha fun _ => pe_un un_neg
theorem tn_lt (ha : TrN X W a ma) (hb : TrN X W b mb) : TrN X W (.Compare a [.Lt] [b] pos) (m2 (fI0 fun i j => .bool (decide (i < j))) ma mb) := tn_2 (pu_I0 fun i j C => .bl _) ha hb fun _ _ h1 h2 => pe_cmpR op_lt h1 h2 (nomark _)
theorem tn_le (ha : TrN X W a ma) (hb : TrN X W b mb) : TrN X W (.Compare a [.LtE] [b] pos) (m2 (fI0 fun i j => .bool (decide (i ≤ j))) ma mb) := tn_2 (pu_I0 fun i j C => .bl _) ha hb fun _ _ h1 h2 => pe_cmpR op_le h1 h2 (nomark _)
theorem tn_gt (ha : TrN X W a ma) (hb : TrN X W b mb) : TrN X W (.Compare a [.Gt] [b] pos) (m2 (fI0 fun i j => .bool (decide (j < i))) ma mb) := tn_2 (pu_I0 fun i j C => .bl _) ha hb fun _ _ h1 h2 => pe_cmpR op_gt h1 h2 (nomark _)
theorem tn_ge (ha : TrN X W a ma) (hb : TrN X W b mb) : TrN X W (.Compare a [.GtE] [b] pos) (m2 (fI0 fun i j => .bool (decide (j ≤ i))) ma mb) := tn_2 (pu_I0 fun i j C => .bl _) ha hb fun _ _ h1 h2 => pe_cmpR op_ge h1 h2 (nomark _)
def isNonE : EB → Bool
  | .dat .none => true
  | _ => false
def fIsN (neg : Bool) : F2 := fun a b Q => b = .dat .none ∧ Q (.d (.bool (xor neg (isNonE a))))
theorem View.isN {C H : Hp} {v : V} {e : EB} (h : View X C H v e) : decide (v = .non) = isNonE e := by
  obtain ⟨G, o, _⟩ := h
  cases o with
  | dat h => cases h <;> rfl
  | lst _ _ => rfl
  | dct _ _ _ => rfl
theorem tn_isN (ha : TrN X W a ma) (hb : TrN X W b mb) : TrN X W (.Compare a [.Is] [b] pos) (m2 (fIsN false) ma mb) := tn_2 (r := fun x y H Q => y = .non ∧ Q (.bl (decide (x = .non))) H) (fun C H x y ex ey Q QQ e v1 v2 q p => by
  obtain ⟨rfl, q⟩ := q
  refine ⟨v2.non, ?_⟩
  rw [v1.isN]
  rw [Bool.false_xor] at q
  exact p.val e q (.bl _)) ha hb fun _ _ h1 h2 => pe_cmpR op_isN h1 h2 (nomark _)
theorem tn_notN (ha : TrN X W a ma) (hb : TrN X W b mb) : TrN X W (.Compare a [.IsNot] [b] pos) (m2 (fIsN true) ma mb) := tn_2 (r := fun x y H Q => y = .non ∧ Q (.bl (!decide (x = .non))) H) (fun C H x y ex ey Q QQ e v1 v2 q p => by
  obtain ⟨rfl, q⟩ := q
  refine ⟨v2.non, ?_⟩
  rw [v1.isN]
  rw [Bool.true_xor] at q
  exact p.val e q (.bl _)) ha hb fun _ _ h1 h2 => pe_cmpR op_notN h1 h2 (nomark _)
end
end Ac
set_option Elab.async false
set_option linter.all false
set_option maxRecDepth 100000
set_option maxHeartbeats 2000000
namespace Ac
open PySem PySem.Spec PyProof.Rows L2
section
variable {K : PySem.W.Frag} {w : World} {C C' H : Hp}
mutual
theorem Rp.dp : ∀ (d : PyData) (v : V), d.canLay0 = true → Rp K w C v d → Dp K C v d
  | .none, _, _, h => by cases h; exact .non
  | .bool b, _, _, h => by cases h; exact .bl b
  | .int i, _, _, h => by cases h; exact .int i
  | .str x, _, _, h => by cases h; exact .str x
  | .list ds, _, c, h => by
    cases h with
    | lst hs ha => exact .lst hs (RpL.dp ds _ (by simpa only [PyData.canLay0] using c) ha)
  | .tuple ds, _, c, h => by
    cases h with
    | tup hs ha => exact .tup hs (RpL.dp ds _ (by simpa only [PyData.canLay0] using c) ha)
  | .dict kvs, _, c, h => by simp [PyData.canLay0] at c
theorem RpL.dp : ∀ (ds : List PyData) (vs : List V), PyData.canLayAll0 ds = true → RpL K w C vs ds → DpAll K C vs ds
  | [], _, _, h => by cases h; exact .nil
  | d :: ds, _, c, h => by
    have c2 : d.canLay0 = true ∧ PyData.canLayAll0 ds = true := by simpa [PyData.canLayAll0] using c
    cases h with
    | cons h1 h2 => exact .cons (Rp.dp d _ c2.1 h1) (RpL.dp ds _ c2.2 h2)
end
end
theorem lay_of {d : PyData} (h : SeqAt.shaped d = true) : d.canLay0 = true := by
  unfold SeqAt.shaped at h
  exact (Bool.and_eq_true_iff.mp h).1
section
variable {X : Cx} {W : WX} {pos : Pos} {a b c e : Expr} {es : List Expr} {ma mb mc : MN} {ms : List MN}
theorem View.dp {C H : Hp} {v : V} {e : EB} (ex : Same C H) (h : View X C H v e) (s : SeqAt.shaped e.frz = true) : Dp X.K H v e.frz := by
  obtain ⟨F, r, _, e2⟩ := h.frz ex
  exact Rp.dp _ _ (lay_of s) (r.up e2)
abbrev fSub : F2 := fI0 fun i j => .int (i - j)
abbrev fMul : F2 := fI CMulX fun i j => .int (i * j)
abbrev fDiv : F2 := fI CDivZ fun i j => .int (i.fdiv j)
abbrev fMod : F2 := fI (fun _ j => j ≠ 0) fun i j => .int (i.fmod j)
abbrev fPow : F2 := fI CPow fun i j => .int (i ^ j.toNat)
def isStrE : EB → Bool
  | .dat (.str _) => true
  | _ => false
/-- two texts, or shaped data -/
def shA (a b : EB) : Bool := (isStrE a && isStrE b) || SeqAt.shaped a.frz
def fEq : F2 := fun a b Q => shA a b = true ∧ shA b a = true ∧ Q (.d (.bool (PyData.eqv a.frz b.frz)))
def fNe : F2 := fun a b Q => shA a b = true ∧ shA b a = true ∧ Q (.d (.bool (!PyData.eqv a.frz b.frz)))
theorem shA_or {a b : EB} (h1 : shA a b = true) (h2 : shA b a = true) : (∃ x y, a = .dat (.str x) ∧ b = .dat (.str y)) ∨ (SeqAt.shaped a.frz = true ∧ SeqAt.shaped b.frz = true) := by
  unfold shA at h1 h2
  cases z : isStrE a && isStrE b with
  | true =>
    obtain ⟨z1, z2⟩ := Bool.and_eq_true_iff.mp z
    refine .inl ?_
    unfold isStrE at z1 z2
    split at z1
    · split at z2
      · exact ⟨_, _, rfl, rfl⟩
      · cases z2
    · cases z1
  | false =>
    rw [z, Bool.false_or] at h1
    rw [Bool.and_comm, z, Bool.false_or] at h2
    exact .inr ⟨h1, h2⟩
theorem op_eqS (hu : X.A.units + 64 < cLine) : ∃ r, OpR X (compareOp .Eq) r ∧ Pu2 X r fEq := ⟨_, OpR.or (op_eqD hu) op_eq, fun C H x y ex ey Q QQ e v1 v2 q p => by
  obtain ⟨s1, s2, q⟩ := q
  rcases shA_or s1 s2 with ⟨a, b, rfl, rfl⟩ | ⟨s1, s2⟩
  · rw [v1.str, v2.str]
    refine .inr ⟨rfl, ?_⟩
    rw [dec_str]
    exact p.val e q (.bl _)
  · exact .inl ⟨_, _, v1.dp e s1, v2.dp e s2, s1, s2, p.val e q (.bl _)⟩⟩
theorem op_neS (hu : X.A.units + 64 < cLine) : ∃ r, OpR X (compareOp .NotEq) r ∧ Pu2 X r fNe := ⟨_, OpR.or (op_neD hu) op_ne, fun C H x y ex ey Q QQ e v1 v2 q p => by
  obtain ⟨s1, s2, q⟩ := q
  rcases shA_or s1 s2 with ⟨a, b, rfl, rfl⟩ | ⟨s1, s2⟩
  · rw [v1.str, v2.str]
    refine .inr ⟨rfl, ?_⟩
    rw [dec_str]
    exact p.val e q (.bl _)
  · exact .inl ⟨_, _, v1.dp e s1, v2.dp e s2, s1, s2, p.val e q (.bl _)⟩⟩
def rInT (K : PySem.W.Frag) (neg : Bool) : R2 := fun x y H Q => ∃ d ds, Dp K H x d ∧ (Dp K H y (.list ds) ∨ Dp K H y (.tuple ds)) ∧ SeqAt.shaped d = true ∧ SeqAt.shaped (.list ds) = true ∧ Q (.bl (xor neg (ds.any fun z => PyData.eqv z d))) H
theorem op_inT (hu : X.A.units + 65 < cLine) : OpR X (compareOp .In) (rInT X.K false) := by
  intro pins s σ H x y v u Q I rx ry h
  obtain ⟨d, ds, hd, he, sd, se, q⟩ := h
  rw [Bool.false_xor] at q
  obtain ⟨as, r1⟩ := Dp.reads I d x v hd rx
  rcases he with he | he
  · obtain ⟨bs, r2⟩ := Dp.reads I (.list ds) y u he ry
    exact SeqAt.in_list_reads r2 r1 (SeqAt.canLay_of_shaped se) (SeqAt.canLay_of_shaped sd) (room_in_shaped sd hu) ⟨.bl _, H, I, rfl, q⟩
  · obtain ⟨bs, r2⟩ := Dp.reads I (.tuple ds) y u he ry
    exact SeqAt.in_tuple_reads r2 r1 (SeqAt.canLay_of_shaped se) (SeqAt.canLay_of_shaped sd) (room_in_shaped sd hu) ⟨.bl _, H, I, rfl, q⟩
theorem op_notInT (hu : X.A.units + 65 < cLine) : OpR X (compareOp .NotIn) (rInT X.K true) := by
  intro pins s σ H x y v u Q I rx ry h
  obtain ⟨d, ds, hd, he, sd, se, q⟩ := h
  rw [Bool.true_xor] at q
  obtain ⟨as, r1⟩ := Dp.reads I d x v hd rx
  rcases he with he | he
  · obtain ⟨bs, r2⟩ := Dp.reads I (.list ds) y u he ry
    exact SeqAt.notIn_list_reads r2 r1 (SeqAt.canLay_of_shaped se) (SeqAt.canLay_of_shaped sd) (room_in_shaped sd hu) ⟨.bl _, H, I, rfl, q⟩
  · obtain ⟨bs, r2⟩ := Dp.reads I (.tuple ds) y u he ry
    exact SeqAt.notIn_tuple_reads r2 r1 (SeqAt.canLay_of_shaped se) (SeqAt.canLay_of_shaped sd) (room_in_shaped sd hu) ⟨.bl _, H, I, rfl, q⟩
def seqOf : EB → Option (List PyData)
  | .lst xs => some xs
  | .dat (.list xs) => some xs
  | .dat (.tuple xs) => some xs
  | _ => none
def kSeq (e : EB) (k : List PyData → Prop) : Prop := match seqOf e with
  | some xs => k xs
  | none => False
theorem kSeq.of {e : EB} {k : List PyData → Prop} (h : kSeq e k) : ∃ xs, seqOf e = some xs ∧ k xs := by
  unfold kSeq at h
  split at h
  · exact ⟨_, by assumption, h⟩
  · exact h.elim
theorem View.seq {C H : Hp} {v : V} {e : EB} {xs : List PyData} (ex : Same C H) (h : View X C H v e) (s : seqOf e = some xs) : ∃ a vs, v = .ref a ∧ (SqL X.K H a vs ∨ SqT X.K H a vs) ∧ RpL X.K X.w C vs xs := by
  obtain ⟨F, o, _⟩ := h
  cases o with
  | lst h1 h2 => cases s; exact ⟨_, _, rfl, .inl (.inl (.inl h1)), h2⟩
  | dct _ _ _ => cases s
  | dat h =>
    cases h with
    | lst h1 h2 => cases s; exact ⟨_, _, rfl, .inl (ex.seq h1), h2⟩
    | tup h1 h2 => cases s; exact ⟨_, _, rfl, .inr (sqT_mono ex h1), h2⟩
    | _ => cases s
def lstOf : EB → Option (List PyData)
  | .lst xs => some xs
  | .dat (.list xs) => some xs
  | _ => none
def kLst (e : EB) (k : List PyData → Prop) : Prop := match lstOf e with
  | some xs => k xs
  | none => False
theorem kLst.of {e : EB} {k : List PyData → Prop} (h : kLst e k) : ∃ xs, lstOf e = some xs ∧ k xs := by
  unfold kLst at h
  split at h
  · exact ⟨_, by assumption, h⟩
  · exact h.elim
theorem View.lst {C H : Hp} {v : V} {e : EB} {xs : List PyData} (ex : Same C H) (h : View X C H v e) (s : lstOf e = some xs) : ∃ a vs, v = .ref a ∧ SqL X.K H a vs ∧ RpL X.K X.w C vs xs := by
  obtain ⟨F, o, _⟩ := h
  cases o with
  | lst h1 h2 => cases s; exact ⟨_, _, rfl, .inl (.inl h1), h2⟩
  | dct _ _ _ => cases s
  | dat h =>
    cases h with
    | lst h1 h2 => cases s; exact ⟨_, _, rfl, ex.seq h1, h2⟩
    | _ => cases s
def fIn (neg : Bool) : F2 := fun a b Q => SeqAt.shaped a.frz = true ∧ kSeq b fun ds => SeqAt.shaped (.list ds) = true ∧ Q (.d (.bool (xor neg (ds.any fun z => PyData.eqv z a.frz))))
theorem pu_in {neg : Bool} : Pu2 X (rInT X.K neg) (fIn neg) := fun C H x y ex ey Q QQ e v1 v2 q p => by
  obtain ⟨s1, q⟩ := q
  obtain ⟨ds, l, s2, q⟩ := q.of
  refine ⟨_, ds, v1.dp e s1, ?_, s1, s2, p.val e q (.bl _)⟩
  obtain ⟨a, vs, rfl, h, r⟩ := v2.seq e l
  have r2 := RpL.dp ds vs (SeqAt.canLay_of_shaped s2) (r.up e)
  rcases h with h | h
  · exact .inl (.lst h r2)
  · exact .inr (.tup h r2)
theorem tn_in (hu : X.A.units + 65 < cLine) (ha : TrN X W a ma) (hb : TrN X W b mb) (hm : behindInMarks .In b = false := by rfl) : TrN X W (.Compare a [.In] [b] pos) (m2 (fIn false) ma mb) := tn_2 pu_in ha hb fun _ _ h1 h2 => pe_cmpR (op_inT hu) h1 h2 hm
theorem tn_notIn (hu : X.A.units + 65 < cLine) (ha : TrN X W a ma) (hb : TrN X W b mb) (hm : behindInMarks .NotIn b = false := by rfl) : TrN X W (.Compare a [.NotIn] [b] pos) (m2 (fIn true) ma mb) := tn_2 pu_in ha hb fun _ _ h1 h2 => pe_cmpR (op_notInT hu) h1 h2 hm
def kAt (xs : List PyData) (i : Int) (k : PyData → Prop) : Prop := match atI xs i with
  | some d => k d
  | none => False
theorem kAt.of {xs : List PyData} {i : Int} {k : PyData → Prop} (h : kAt xs i k) : ∃ d, atI xs i = some d ∧ k d := by
  unfold kAt at h
  split at h
  · exact ⟨_, by assumption, h⟩
  · exact h.elim
theorem RpL.atI {K w C} {vs : List V} {ds : List PyData} {i : Int} {d : PyData} (r : RpL K w C vs ds) (h : L2.atI ds i = some d) : ∃ v, L2.atI vs i = some v ∧ Rp K w C v d := by
  unfold L2.atI at h ⊢
  rw [r.length]
  cases e : ixN ds.length i with
  | none => rw [e] at h; cases h
  | some j => rw [e] at h; exact r.get h
def fIx : F2 := fun a b Q => match b with
  | .dat (.int i) => (match a with
    | .dat (.str z) => z.length ≤ sizeLine ∧ ∃ c, atI z.cps.toList i = some c ∧ Q (.d (.str ⟨#[c]⟩))
    | a => kSeq a fun xs => kAt xs i fun d => Q (.d d))
  | _ => False
abbrev rIx3 (K : PySem.W.Frag) : R2 := fun x y H Q => (rIxL K x y H Q ∨ rIxT K x y H Q) ∨ rIxS x y H Q
theorem ix_str' : IxR X rIxS := ix_str
theorem pu_ix : Pu2 X (rIx3 X.K) fIx := fun C H x y ex ey Q QQ e v1 v2 q p => by
  unfold fIx at q
  split at q
  · rename_i i
    have hy := v2.int
    subst hy
    split at q
    · obtain ⟨h1, c, h2, q⟩ := q
      exact .inr ⟨_, i, c, v1.str, rfl, h1, h2, p.val e q (.str _)⟩
    · obtain ⟨xs, l, q⟩ := q.of
      obtain ⟨d, hd, q⟩ := q.of
      obtain ⟨a, vs, rfl, h, r⟩ := v1.seq e l
      obtain ⟨v, hv, rv⟩ := r.atI hd
      rcases h with h | h
      · exact .inl (.inl ⟨a, vs, i, v, rfl, rfl, h, hv, p.val e q rv⟩)
      · exact .inl (.inr ⟨a, vs, i, v, rfl, rfl, h, hv, p.val e q rv⟩)
  · exact q.elim
theorem tn_ix (ha : TrN X W a ma) (hb : TrN X W b mb) (hs : PlainIx b := by exact fun _ _ => rfl) : TrN X W (.Subscript a b pos) (m2 fIx ma mb) :=
  tn_2 pu_ix ha hb fun _ _ h1 h2 => pe_ix (IxR.or (IxR.or ix_list ix_tup) ix_str') h1 h2 hs
def cutD (xs : List PyData) (lo hi : Option Int) : List PyData := (xs.drop (HT.sIx xs.length 0 lo)).take (HT.sIx xs.length xs.length hi - HT.sIx xs.length 0 lo)
/-- a part of a slice -/
structure TrO (X : Cx) (W : WX) (e : Option Expr) (m : Envr → (Option Int → Prop) → XN → Prop) : Prop where
  run : ∀ (C H : Hp) (σ : Slots) (ρ : Envr) (φ : Ph) (Q : Option Int → Prop) (R : XN) (QQ : Option Int → Hp → Prop), OkX X C H σ ρ φ → m ρ Q R → (∀ o C2 H2, Q o → New C H C2 H2 [] → QQ o H2) → XPostN X W R C H σ →
    ∃ t, PO X e t ∧ t σ H QQ
def mNo : Envr → (Option Int → Prop) → XN → Prop := fun _ Q _ => Q none
def kInt (e : EB) (k : Int → Prop) : Prop := match e with
  | .dat (.int i) => k i
  | _ => False
theorem kInt.of {e : EB} {k : Int → Prop} (h : kInt e k) : ∃ i, e = .dat (.int i) ∧ k i := by
  unfold kInt at h
  split at h
  · exact ⟨_, rfl, h⟩
  · exact h.elim
def mSo (m : MN) : Envr → (Option Int → Prop) → XN → Prop := fun ρ Q R => m ρ (fun r => kOpn r fun r => kLook ρ r fun e => kInt e fun i => Q (some i)) R
theorem to_no : TrO X W none mNo := ⟨fun C H σ ρ φ Q R QQ k q p x => ⟨_, po_none, p none C H q (New.refl k.ex)⟩⟩
theorem to_so (ha : TrN X W a ma) : TrO X W (some a) (mSo ma) := ⟨fun C H σ ρ φ Q R QQ k q p x => ⟨_, po_some (pe_w a), ha.run C H σ ρ φ _ R _ k q (fun ra v C1 H1 F q1 n1 r1 => by
  obtain ⟨ra', o1, q1⟩ := q1.of
  obtain ⟨C1', n1, r1⟩ := opn_ok n1 r1 o1
  obtain ⟨ea, l1, q1⟩ := q1.of
  obtain ⟨i, rfl, q1⟩ := q1.of
  have v1 := r1.view (F := []) (k.new n1) (fun _ z => nomatch z) l1
  exact ⟨i, v1.int, p _ C1' H1 q1 n1⟩) x⟩⟩
def fSl (a : EB) (lo hi : Option Int) (Q : QN) : Prop := match a with
  | .dat (.str z) => z.length ≤ sizeLine ∧ Q (.d (.str (cutS z lo hi)))
  | a => kLst a fun xs => Q (.new (.lst (cutD xs lo hi)))
def mSl (ma : MN) (ml mh : Envr → (Option Int → Prop) → XN → Prop) : MN := fun ρ Q R => ma ρ (fun ra => kOpn ra fun ra => ml ρ (fun lo => mh ρ (fun hi => kLook ρ ra fun ea => fSl ea lo hi Q) R) R) R
abbrev rSl2 (K : PySem.W.Frag) : V → Option Int → Option Int → Hp → VK → Prop := fun x lo hi H Q => rSlL K x lo hi H Q ∨ rSlS x lo hi H Q
def WO (X : Cx) (e : Option Expr) : TO := fun σ H Q => ∀ (pins : List (Addr × Obj)) (s : Shared), Inv X pins σ H s → wpAny (model X.prog X.w) X.A (evalPart e X.env) (fun u s' => ∃ o H', Inv X pins σ H' s' ∧ IsPart u o ∧ Q o H') X.xe s
theorem po_w (e : Option Expr) : PO X e (WO X e) := ⟨fun pins s _ _ _ I h => h pins s I⟩
theorem PO.to' {e : Option Expr} {t : TO} (h : PO X e t) {σ : Slots} {H : Hp} {Q : Option Int → Hp → Prop} (q : t σ H Q) : WO X e σ H Q := fun pins s I => h.run pins s σ H Q I q
theorem TrO.w {e : Option Expr} {m : Envr → (Option Int → Prop) → XN → Prop} (h : TrO X W e m) {C H σ ρ φ} {Q : Option Int → Prop} {R : XN} {QQ : Option Int → Hp → Prop} (k : OkX X C H σ ρ φ) (q : m ρ Q R) (p : ∀ o C2 H2, Q o → New C H C2 H2 [] → QQ o H2) (x : XPostN X W R C H σ) : WO X e σ H QQ :=
  let ⟨_, h1, h2⟩ := h.run C H σ ρ φ Q R QQ k q p x
  PO.to' h1 h2
theorem tn_sl {lo hi : Option Expr} {ml mh : Envr → (Option Int → Prop) → XN → Prop} {p2 : Pos} (ha : TrN X W a ma) (hl : TrO X W lo ml) (hh : TrO X W hi mh) : TrN X W (.Subscript a (.Slice lo hi none p2) pos) (mSl ma ml mh) := by
  refine ⟨fun C H σ ρ φ Q R QQ k q p x => (pe_slice (SlR.or sl_list sl_str) (pe_w a) (po_w lo) (po_w hi)).to ?_⟩
  refine ha.run C H σ ρ φ _ R _ k q (fun ra v C1 H1 F q1 n1 r1 => ?_) x
  obtain ⟨ra', o1, q1⟩ := q1.of
  obtain ⟨C1', n1, r1⟩ := opn_ok n1 r1 o1
  refine hl.w (k.new n1) q1 (fun o C2 H2 q2 n2 => ?_) (x.new n1)
  refine hh.w ((k.new n1).new n2) q2 (fun o2 C3 H3 q3 n3 => ?_) ((x.new n1).new n2)
  obtain ⟨ea, l1, q3⟩ := q3.of
  have k3 := ((k.new n1).new n2).new n3
  have v1 := ((r1.new n2).new n3).view (F := []) k3 (fun _ z => nomatch z) l1
  have n13 := (n1.trans n2).trans n3
  unfold fSl at q3
  split at q3
  · exact .inr ⟨_, v1.str, q3.1, p _ _ C3 H3 [] q3.2 n13 ⟨.str _, rfl⟩⟩
  · obtain ⟨xs, l, q3⟩ := q3.of
    obtain ⟨b, vs, rfl, h, r⟩ := v1.lst k3.ex l
    refine .inl ⟨b, vs, rfl, h, fun l hl => ?_⟩
    refine p _ _ C3 (upd H3 l (.lst (cutV vs o o2))) [l] q3 (n13.trans (New.lst k3.ex hl)) (.b (.lst upd_same ?_))
    unfold cutV cutD
    rw [r.length]
    exact (r.drop _).take _
end
end Ac
set_option Elab.async false
set_option linter.all false
set_option maxRecDepth 100000
set_option maxHeartbeats 2000000
namespace Ac
open PySem PySem.Spec PyProof.Rows L2
section
variable {X : Cx} {W : WX} {pos : Pos} {a b c e : Expr} {es rest : List Expr} {ma mb mc : MN} {ms : List MN} {ta tb : MT}
def CmpOk (X : Cx) (op : CmpOp) (f : F2) : Prop := ∃ r, OpR X (compareOp op) r ∧ Pu2 X r f
abbrev fLt : F2 := fI0 fun i j => .bool (decide (i < j))
abbrev fLe : F2 := fI0 fun i j => .bool (decide (i ≤ j))
abbrev fGt : F2 := fI0 fun i j => .bool (decide (j < i))
abbrev fGe : F2 := fI0 fun i j => .bool (decide (j ≤ i))
theorem cm_lt : CmpOk X .Lt fLt := ⟨_, op_lt, pu_I0 fun i j C => .bl _⟩
theorem cm_le : CmpOk X .LtE fLe := ⟨_, op_le, pu_I0 fun i j C => .bl _⟩
theorem cm_gt : CmpOk X .Gt fGt := ⟨_, op_gt, pu_I0 fun i j C => .bl _⟩
theorem cm_ge : CmpOk X .GtE fGe := ⟨_, op_ge, pu_I0 fun i j C => .bl _⟩
theorem cm_eq (hu : X.A.units + 65 < cLine) : CmpOk X .Eq fEq := op_eqS (by omega)
theorem cm_ne (hu : X.A.units + 65 < cLine) : CmpOk X .NotEq fNe := op_neS (by omega)
theorem cm_isN : CmpOk X .Is (fIsN false) := ⟨_, op_isN, fun C H x y ex ey Q QQ e v1 v2 q p => by
  obtain ⟨rfl, q⟩ := q
  refine ⟨v2.non, ?_⟩
  rw [v1.isN]
  rw [Bool.false_xor] at q
  exact p.val e q (.bl _)⟩
theorem cm_notN : CmpOk X .IsNot (fIsN true) := ⟨_, op_notN, fun C H x y ex ey Q QQ e v1 v2 q p => by
  obtain ⟨rfl, q⟩ := q
  refine ⟨v2.non, ?_⟩
  rw [v1.isN]
  rw [Bool.true_xor] at q
  exact p.val e q (.bl _)⟩
theorem cm_in (hu : X.A.units + 65 < cLine) : CmpOk X .In (fIn false) := ⟨_, op_inT hu, pu_in⟩
theorem cm_notIn (hu : X.A.units + 65 < cLine) : CmpOk X .NotIn (fIn true) := ⟨_, op_notInT hu, pu_in⟩
/-- one sign in a text -/
def fInS (neg : Bool) : F2 := fun a b Q => ∃ c z, a = .dat (.str ⟨#[c]⟩) ∧ b = .dat (.str z) ∧ Q (.d (.bool (xor neg (decide (c ∈ z.cps.toList)))))
theorem cm_inS : CmpOk X .In (fInS false) := ⟨_, op_in_sign, fun C H x y ex ey Q QQ e v1 v2 q p => by
  obtain ⟨c, z, rfl, rfl, q⟩ := q
  rw [Bool.false_xor] at q
  exact ⟨c, z, v1.str, v2.str, p.val e q (.bl _)⟩⟩
theorem cm_notInS : CmpOk X .NotIn (fInS true) := ⟨_, op_notIn_sign, fun C H x y ex ey Q QQ e v1 v2 q p => by
  obtain ⟨c, z, rfl, rfl, q⟩ := q
  rw [Bool.true_xor] at q
  exact ⟨c, z, v1.str, v2.str, p.val e q (.bl _)⟩⟩
theorem tn_cmp {op : CmpOp} {f : F2} (h : CmpOk X op f) (ha : TrN X W a ma) (hb : TrN X W b mb) (hm : behindInMarks op b = false) : TrN X W (.Compare a [op] [b] pos) (m2 f ma mb) := by
  obtain ⟨r, ho, hf⟩ := h
  exact tn_2 hf ha hb fun _ _ h1 h2 => pe_cmpR ho h1 h2 hm
def kBool (rv : RV) (k : Bool → Prop) : Prop := match rv with
  | .d (.bool b) => k b
  | _ => False
theorem kBool.of {rv : RV} {k : Bool → Prop} (h : kBool rv k) : ∃ b, rv = .d (.bool b) ∧ k b := by
  unfold kBool at h
  split at h
  · exact ⟨_, rfl, h⟩
  · exact h.elim
def mTst (m : MN) : MT := fun ρ Q R => m ρ (fun rv => kBool rv fun k => Q k ρ) (fun c => R c ρ)
theorem tt_cmp {op : CmpOp} {f : F2} (h : CmpOk X op f) (ha : TrN X W a ma) (hb : TrN X W b mb) (hm : behindInMarks op b = false) : TrT X W (.Compare a [op] [b] pos) (mTst (m2 f ma mb)) := by
  obtain ⟨r, ho, hf⟩ := h
  refine ⟨fun C H σ ρ φ Q R QQ k q p x => (pt_cmpR ho (pe_w a) (pe_w b) hm).to ?_⟩
  have x' := XPost.pure k x
  refine ha.run C H σ ρ φ _ _ _ k q (fun ra v C1 H1 F q1 n1 r1 => ?_) x'
  obtain ⟨ra', o1, q1⟩ := q1.of
  obtain ⟨C1', n1, r1⟩ := opn_ok n1 r1 o1
  refine hb.run C1' H1 σ ρ φ _ _ _ (k.new n1) q1 (fun rb u C2 H2 F2 q2 n2 r2 => ?_) (x'.new n1)
  obtain ⟨rb', o2, q2⟩ := q2.of
  obtain ⟨C2', n2, r2⟩ := opn_ok n2 r2 o2
  obtain ⟨ea, l1, q2⟩ := q2.of
  obtain ⟨eb, l2, q2⟩ := q2.of
  have k2 := (k.new n1).new n2
  refine hf C2' H2 v u ea eb _ _ k2.ex ((r1.new n2).view (F := []) k2 (fun _ z => nomatch z) l1) (r2.view (F := []) k2 (fun _ z => nomatch z) l2) q2 fun rv v C3 H3 F q n r => ?_
  obtain ⟨bb, rfl, q⟩ := q.of
  obtain ⟨r, rfl⟩ := r
  have n3 := (n1.trans n2).trans n
  have : v = .bl bb := by cases r; rfl
  exact ⟨bb, this, p bb ρ C3 H3 φ q (k.new n3) (Step.none n3)⟩
/-- a < b < c -/
def mCh (f f' : F2) (a b c : MN) : MN := fun ρ Q R => a ρ (fun ra => kOpn ra fun ra => b ρ (fun rb => kOpn rb fun rb => kLook ρ ra fun ea => kLook ρ rb fun eb => f ea eb fun rk => kBool rk fun k =>
  bif k then c ρ (fun rc => kOpn rc fun rc => kLook ρ rb fun eb => kLook ρ rc fun ec => f' eb ec Q) R else Q (.d (.bool false))) R) R
theorem ch_core {op op' : CmpOp} {f f' : F2} {r r' : R2} (hf : Pu2 X r f) (hf' : Pu2 X r' f') (ha : TrN X W a ma) (hb : TrN X W b mb) (hc : TrN X W c mc) {C H σ ρ φ Q R QQ} (k : OkX X C H σ ρ φ) (q : mCh f f' ma mb mc ρ Q R) (p : NPost X Q C H σ ρ QQ) (x : XPostN X W R C H σ) :
    tChain r r' (WE X a) (WE X b) (WE X c) σ H QQ := by
  refine ha.run C H σ ρ φ _ R _ k q (fun ra v C1 H1 F q1 n1 r1 => ?_) x
  obtain ⟨ra', o1, q1⟩ := q1.of
  obtain ⟨C1', n1, r1⟩ := opn_ok n1 r1 o1
  refine hb.run C1' H1 σ ρ φ _ R _ (k.new n1) q1 (fun rb u C2 H2 F2 q2 n2 r2 => ?_) (x.new n1)
  obtain ⟨rb', o2, q2⟩ := q2.of
  obtain ⟨C2', n2, r2⟩ := opn_ok n2 r2 o2
  obtain ⟨ea, l1, q2⟩ := q2.of
  obtain ⟨eb, l2, q2⟩ := q2.of
  have k2 := (k.new n1).new n2
  refine hf C2' H2 v u ea eb _ _ k2.ex ((r1.new n2).view (F := []) k2 (fun _ z => nomatch z) l1) (r2.view (F := []) k2 (fun _ z => nomatch z) l2) q2 fun rv v3 C3 H3 F q3 n3 r3 => ?_
  obtain ⟨bb, rfl, q3⟩ := q3.of
  obtain ⟨r3, rfl⟩ := r3
  have hv : v3 = .bl bb := by cases r3; rfl
  refine ⟨bb, hv, ?_⟩
  cases bb with
  | false => exact iteF (p _ _ C3 H3 [] q3 ((n1.trans n2).trans n3) ⟨.bl false, rfl⟩)
  | true =>
    refine iteT ?_
    have k3 := k2.new n3
    refine hc.run C3 H3 σ ρ φ _ R _ k3 q3 (fun rc u4 C4 H4 F4 q4 n4 r4 => ?_) (((x.new n1).new n2).new n3)
    obtain ⟨rc', o4, q4⟩ := q4.of
    obtain ⟨C4', n4, r4⟩ := opn_ok n4 r4 o4
    obtain ⟨eb', l3, q4⟩ := q4.of
    obtain ⟨ec, l4, q4⟩ := q4.of
    have k4 := k3.new n4
    refine hf' C4' H4 u u4 eb' ec Q QQ k4.ex (((r2.new n3).new n4).view (F := []) k4 (fun _ z => nomatch z) l3) (r4.view (F := []) k4 (fun _ z => nomatch z) l4) q4 fun rv v C5 H5 F q n r => ?_
    exact p rv v C5 H5 F q ((((n1.trans n2).trans n3).trans n4).trans n) (r.ok σ ρ)
theorem tn_chain {op op' : CmpOp} {f f' : F2} (h : CmpOk X op f) (h' : CmpOk X op' f') (ha : TrN X W a ma) (hb : TrN X W b mb) (hc : TrN X W c mc) (hm : lastMarks [op, op'] [b, c] = false := by with_unfolding_all rfl) : TrN X W (.Compare a [op, op'] [b, c] pos) (mCh f f' ma mb mc) := by
  obtain ⟨r, ho, hf⟩ := h
  obtain ⟨r', ho', hf'⟩ := h'
  exact ⟨fun C H σ ρ φ Q R QQ k q p x => (pe_chain ho ho' (pe_w a) (pe_w b) (pe_w c) hm).to (ch_core (op := op) (op' := op') hf hf' ha hb hc k q p x)⟩
theorem tt_chain {op op' : CmpOp} {f f' : F2} (h : CmpOk X op f) (h' : CmpOk X op' f') (ha : TrN X W a ma) (hb : TrN X W b mb) (hc : TrN X W c mc) (hm : lastMarks [op, op'] [b, c] = false := by with_unfolding_all rfl) : TrT X W (.Compare a [op, op'] [b, c] pos) (mTst (mCh f f' ma mb mc)) := by
  obtain ⟨r, ho, hf⟩ := h
  obtain ⟨r', ho', hf'⟩ := h'
  refine ⟨fun C H σ ρ φ Q R QQ k q p x => (pt_chain ho ho' (pe_w a) (pe_w b) (pe_w c) hm).to ?_⟩
  refine ch_core (op := op) (op' := op') hf hf' ha hb hc k q (fun rv v C3 H3 F q n r => ?_) (XPost.pure k x)
  obtain ⟨bb, rfl, q⟩ := q.of
  obtain ⟨r, rfl⟩ := r
  have : v = .bl bb := by cases r; rfl
  exact ⟨bb, this, p bb ρ C3 H3 φ q (k.new n) (Step.none n)⟩
def truD : EB → Option Bool
  | .dat .none => some false
  | .dat (.bool b) => some b
  | .dat (.int i) => some (i != 0)
  | .dat (.list xs) => some (!xs.isEmpty)
  | .dat (.tuple xs) => some (!xs.isEmpty)
  | .lst xs => some (!xs.isEmpty)
  | _ => none
def kTru (e : EB) (k : Bool → Prop) : Prop := match truD e with
  | some b => k b
  | none => False
def mTru (m : MN) : MT := fun ρ Q R => m ρ (fun r => kOpn r fun r => kLook ρ r fun e => kTru e fun b => Q b ρ) (fun c => R c ρ)
theorem RpL.empty {K w C} {vs : List V} {ds : List PyData} (h : RpL K w C vs ds) : vs.isEmpty = ds.isEmpty := by cases h <;> rfl
theorem View.tru {C H : Hp} {v : V} {e : EB} {k : Bool} (ex : Same C H) (h : View X C H v e) (t : truD e = some k) : TruV X.K v H k := by
  obtain ⟨F, o, _⟩ := h
  cases o with
  | lst h1 h2 =>
    cases t
    refine .inl ⟨_, .inl (.inl h1), ?_⟩
    rw [h2.empty]
  | dct _ _ _ => cases t
  | dat h =>
    cases h with
    | non => cases t; rfl
    | bl b => cases t; rfl
    | int i => cases t; rfl
    | str x => cases t
    | lst h1 h2 => cases t; exact .inl ⟨_, ex.seq h1, by rw [h2.empty]⟩
    | tup h1 h2 => cases t; exact .inr (.inl ⟨_, sqT_mono ex h1, by rw [h2.empty]⟩)
    | dct _ _ => cases t
theorem tt_val (ha : TrN X W a ma) (he : ∀ whole, isTrue a X.env whole = (do let v ← whole; standAt a.pos; holding [v] (truthy v)) := by intro _; rfl) : TrT X W a (mTru ma) := by
  refine ⟨fun C H σ ρ φ Q R QQ k q p x => (pt_truth (pe_w a) he).to ?_⟩
  refine ha.run C H σ ρ φ _ _ _ k q (fun ra v C1 H1 F q1 n1 r1 => ?_) (XPost.pure k x)
  obtain ⟨ra', o1, q1⟩ := q1.of
  obtain ⟨C1', n1, r1⟩ := opn_ok n1 r1 o1
  obtain ⟨ea, l1, q1⟩ := q1.of
  have k1 := k.new n1
  unfold kTru at q1
  split at q1
  · rename_i bb hb
    exact ⟨bb, (r1.view (F := []) k1 (fun _ z => nomatch z) l1).tru k1.ex hb, p bb ρ C1' H1 φ q1 k1 (Step.none n1)⟩
  · exact q1.elim
/-- a general expression that gives a truth -/
def mTruE (m : ME) : MT := fun ρ Q R => m ρ (fun r ρ' => kBool r fun b => Q b ρ') R
theorem tt_valE {me : ME} (ha : TrE X W a me) (he : ∀ whole, isTrue a X.env whole = (do let v ← whole; standAt a.pos; holding [v] (truthy v)) := by intro _; rfl) : TrT X W a (mTruE me) := by
  refine ⟨fun C H σ ρ φ Q R QQ k q p x => (pt_truth (pe_w a) he).to ?_⟩
  refine ha.run C H σ ρ φ _ _ _ k q (fun ra ρ1 v C1 H1 φ1 F q1 k1 s1 r1 _ => ?_) x
  obtain ⟨bb, rfl, q1⟩ := q1.of
  obtain ⟨r1, rfl⟩ := r1
  have : v = .bl bb := by cases r1; rfl
  subst this
  exact ⟨bb, rfl, p bb ρ1 C1 H1 φ1 q1 k1 (s1.imp fun _ z => .inl z)⟩
def mAnd (a b : MT) : MT := fun ρ Q R => a ρ (fun k ρ' => bif k then b ρ' Q R else Q false ρ') R
def mOr (a b : MT) : MT := fun ρ Q R => a ρ (fun k ρ' => bif k then Q true ρ' else b ρ' Q R) R
def mNot (a : MT) : MT := fun ρ Q R => a ρ (fun k ρ' => Q (!k) ρ') R
/-- a test that stands in and, or -/
structure TrW (X : Cx) (W : WX) (e : Expr) (m : MT) : Prop where
  run : ∀ (C H : Hp) (σ : Slots) (ρ : Envr) (φ : Ph) (Q : Bool → Envr → Prop) (R : RX) (QQ : Bool → Hp → Prop), OkX X C H σ ρ φ → m ρ Q R → TPost X Q C H σ φ QQ → XPost X W R C H σ φ → ∃ t, PW X e t ∧ t σ H QQ
theorem TrW.tt (h : TrW X W e ta) : TrT X W e ta := ⟨fun C H σ ρ φ Q R QQ k q p x => let ⟨_, h1, h2⟩ := h.run C H σ ρ φ Q R QQ k q p x; h1.pt.to h2⟩
theorem tw_and1 (ha : TrT X W a ta) : TrW X W (.BoolOp .And [a] pos) ta := ⟨fun C H σ ρ φ Q R QQ k q p x => ⟨_, pw_and1 (pt_w a), ha.run C H σ ρ φ Q R QQ k q p x⟩⟩
theorem tw_or1 (ha : TrT X W a ta) : TrW X W (.BoolOp .Or [a] pos) ta := ⟨fun C H σ ρ φ Q R QQ k q p x => ⟨_, pw_or1 (pt_w a), ha.run C H σ ρ φ Q R QQ k q p x⟩⟩
def WW (X : Cx) (e : Expr) : TT := fun σ H Q => ∃ t, PW X e t ∧ t σ H Q
theorem pw_w (e : Expr) : PW X e (WW X e) := ⟨fun wh pins s σ H Q I ⟨_, h1, h2⟩ => h1.run wh pins s σ H Q I h2⟩
theorem TPost.step {Q : Bool → Envr → Prop} {C H σ φ QQ} {C2 H2 φ2} (p : TPost X Q C H σ φ QQ) (s : Step C H (Sof φ) C2 H2 (Sof φ2)) (sep : ∀ a, Sof φ2 a → C2 a = none) : TPost X Q C2 H2 σ φ2 QQ := fun b ρ2 C3 H3 φ3 q k t => p b ρ2 C3 H3 φ3 q k (s.trans t sep)
theorem tw_and (ha : TrT X W a ta) (hb : TrW X W (.BoolOp .And (b :: rest) pos) tb) : TrW X W (.BoolOp .And (a :: b :: rest) pos) (mAnd ta tb) := by
  refine ⟨fun C H σ ρ φ Q R QQ k q p x => ⟨_, pw_and (pt_w a) (pw_w _), ?_⟩⟩
  refine ha.run C H σ ρ φ _ R _ k q (fun bb ρ2 C2 H2 φ2 q2 k2 s2 => ?_) x
  cases bb with
  | false => exact iteF (p false ρ2 C2 H2 φ2 q2 k2 s2)
  | true => exact iteT (hb.run C2 H2 σ ρ2 φ2 Q R QQ k2 q2 (p.step s2 k2.sepS) (x.step s2 k2.sepS))
theorem tw_or (ha : TrT X W a ta) (hb : TrW X W (.BoolOp .Or (b :: rest) pos) tb) : TrW X W (.BoolOp .Or (a :: b :: rest) pos) (mOr ta tb) := by
  refine ⟨fun C H σ ρ φ Q R QQ k q p x => ⟨_, pw_or (pt_w a) (pw_w _), ?_⟩⟩
  refine ha.run C H σ ρ φ _ R _ k q (fun bb ρ2 C2 H2 φ2 q2 k2 s2 => ?_) x
  cases bb with
  | true => exact iteT (p true ρ2 C2 H2 φ2 q2 k2 s2)
  | false => exact iteF (hb.run C2 H2 σ ρ2 φ2 Q R QQ k2 q2 (p.step s2 k2.sepS) (x.step s2 k2.sepS))
theorem tt_not (ha : TrT X W a ta) : TrT X W (.UnaryOp .Not a pos) (mNot ta) := ⟨fun C H σ ρ φ Q R QQ k q p x => (pt_not (pt_w a)).to (ha.run C H σ ρ φ _ R _ k q (fun bb ρ2 C2 H2 φ2 q2 k2 s2 => p _ ρ2 C2 H2 φ2 q2 k2 s2) x)⟩
def mAndV (a b : MN) : MN := fun ρ Q R => a ρ (fun r => kBool r fun k => bif k then b ρ Q R else Q (.d (.bool false))) R
def mOrV (a b : MN) : MN := fun ρ Q R => a ρ (fun r => kBool r fun k => bif k then Q (.d (.bool true)) else b ρ Q R) R
def mNotV (a : MN) : MN := fun ρ Q R => a ρ (fun r => kBool r fun k => Q (.d (.bool (!k)))) R
theorem NPost.new {Q : QN} {C H σ ρ QQ C2 H2} (p : NPost X Q C H σ ρ QQ) (n : New C H C2 H2 []) : NPost X Q C2 H2 σ ρ QQ := fun rv v C3 H3 F q m r => p rv v C3 H3 F q (n.trans m) r
theorem tn_one {op} (ha : TrN X W a ma) : TrN X W (.BoolOp op [a] pos) ma := ⟨fun C H σ ρ φ Q R QQ k q p x => (pe_one (pe_w a)).to (ha.run C H σ ρ φ Q R QQ k q p x)⟩
theorem tn_and (ha : TrN X W a ma) (hb : TrN X W (.BoolOp .And (b :: rest) pos) mb) : TrN X W (.BoolOp .And (a :: b :: rest) pos) (mAndV ma mb) := by
  refine ⟨fun C H σ ρ φ Q R QQ k q p x => (pe_and (pe_w a) (pe_w _)).to ?_⟩
  refine ha.run C H σ ρ φ _ R _ k q (fun ra v C1 H1 F q1 n1 r1 => ?_) x
  obtain ⟨bb, rfl, q1⟩ := q1.of
  obtain ⟨r1, rfl⟩ := r1
  have : v = .bl bb := by cases r1; rfl
  refine ⟨bb, this, ?_⟩
  cases bb with
  | false => exact iteF (p _ _ C1 H1 [] q1 n1 ⟨.bl false, rfl⟩)
  | true => exact iteT (hb.run C1 H1 σ ρ φ Q R QQ (k.new n1) q1 (p.new n1) (x.new n1))
theorem tn_or (ha : TrN X W a ma) (hb : TrN X W (.BoolOp .Or (b :: rest) pos) mb) : TrN X W (.BoolOp .Or (a :: b :: rest) pos) (mOrV ma mb) := by
  refine ⟨fun C H σ ρ φ Q R QQ k q p x => (pe_or (pe_w a) (pe_w _)).to ?_⟩
  refine ha.run C H σ ρ φ _ R _ k q (fun ra v C1 H1 F q1 n1 r1 => ?_) x
  obtain ⟨bb, rfl, q1⟩ := q1.of
  obtain ⟨r1, rfl⟩ := r1
  have : v = .bl bb := by cases r1; rfl
  refine ⟨bb, this, ?_⟩
  cases bb with
  | true => exact iteT (p _ _ C1 H1 [] q1 n1 ⟨.bl true, rfl⟩)
  | false => exact iteF (hb.run C1 H1 σ ρ φ Q R QQ (k.new n1) q1 (p.new n1) (x.new n1))
theorem tn_not (ha : TrN X W a ma) : TrN X W (.UnaryOp .Not a pos) (mNotV ma) := by
  refine ⟨fun C H σ ρ φ Q R QQ k q p x => (pe_not (pe_w a)).to ?_⟩
  refine ha.run C H σ ρ φ _ R _ k q (fun ra v C1 H1 F q1 n1 r1 => ?_) x
  obtain ⟨bb, rfl, q1⟩ := q1.of
  obtain ⟨r1, rfl⟩ := r1
  have : v = .bl bb := by cases r1; rfl
  exact ⟨bb, this, p _ _ C1 H1 [] q1 n1 ⟨.bl _, rfl⟩⟩
/-- a if t else b; the test leaves the names as they are -/
def mIfE (t : MT) (a b : MN) : MN := fun ρ Q R => t ρ (fun k ρ' => ρ' = ρ ∧ bif k then a ρ Q R else b ρ Q R) (fun c ρ' => ρ' = ρ ∧ R c)
def rCatS (K : PySem.W.Frag) : R2 := fun x y H Q => ∃ l b xs zs, x = .ref l ∧ y = .ref b ∧ SqL K H l xs ∧ SqL K H b zs ∧ xs.length + zs.length ≤ sizeLine ∧ ∀ p, H p = none → Q (.ref p) (upd H p (.lst (xs ++ zs)))
theorem op_catS : OpR X (binaryOp .Add) (rCatS X.K) := by
  intro pins s σ H x y v u Q I rx ry h
  obtain ⟨l, b, xs, zs, rfl, rfl, hH, hB, hz, q⟩ := h
  cases rx
  cases ry
  obtain ⟨its, r, hl, _⟩ := I.list hH
  obtain ⟨its2, r2, hb, _⟩ := I.list hB
  obtain ⟨⟨cls, dd, data, sl⟩, ho, hc, n, hd⟩ := id hl.isList
  obtain ⟨⟨cls2, dd2, data2, sl2⟩, ho2, hc2, n2, hd2⟩ := id hb.isList
  simp only at hc hd hc2 hd2
  subst hc hd hc2 hd2
  have e : its.toArray ++ its2.toArray = (its ++ its2).toArray := by simp
  have h1 := r.length
  have h2 := r2.length
  refine concat_meets ⟨_, ho, rfl⟩ ⟨_, ho2, rfl⟩ noFill_list_add seq_list_add PySem.F.slot_list_add PySem.F.entry_list_add (PySem.F.args_list_add_2 _ _) (list_addW l b its.toArray its2.toArray n n2 dd dd2 sl sl2 (by simp only [List.size_toArray]; omega)) ⟨ho, ho2, ?_⟩
  rw [e]
  exact ⟨.ref _, _, I.lnew (t' := s.toks) (r.append r2) (by rw [List.length_append]; omega), rfl, q _ I.fresh⟩
def fAdd : F2 := fun a b Q => match a, b with
  | .dat (.int i), .dat (.int j) => Q (.d (.int (i + j)))
  | .dat (.str i), .dat (.str j) => i.length + j.length ≤ sizeLine ∧ Q (.d (.str (i ++ j)))
  | a, b => kLst a fun xs => kLst b fun ys => xs.length + ys.length ≤ sizeLine ∧ Q (.new (.lst (xs ++ ys)))
abbrev rAdd3 (K : PySem.W.Frag) : R2 := fun x y H Q => (rI0 (fun i j => .int (i + j)) x y H Q ∨ (∃ i j, x = .str i ∧ y = .str j ∧ i.length + j.length ≤ sizeLine ∧ Q (.str (i ++ j)) H)) ∨ rCatS K x y H Q
theorem pu_add : Pu2 X (rAdd3 X.K) fAdd := fun C H x y ex ey Q QQ e v1 v2 q p => by
  unfold fAdd at q
  split at q
  · exact .inl (.inl ⟨_, _, v1.int, v2.int, p.val e q (.int _)⟩)
  · exact .inl (.inr ⟨_, _, v1.str, v2.str, q.1, p.val e q.2 (.str _)⟩)
  · obtain ⟨xs, l1, q⟩ := q.of
    obtain ⟨ys, l2, hz, q⟩ := q.of
    obtain ⟨a, vs, rfl, h1, r1⟩ := v1.lst e l1
    obtain ⟨b, us, rfl, h2, r2⟩ := v2.lst e l2
    refine .inr ⟨a, b, vs, us, rfl, rfl, h1, h2, by rw [r1.length, r2.length]; exact hz, fun l hl => ?_⟩
    exact p _ _ C _ [l] q (New.lst e hl) (.b (.lst upd_same (r1.append r2)))
theorem tn_plus (ha : TrN X W a ma) (hb : TrN X W b mb) : TrN X W (.BinOp a .Add b pos) (m2 fAdd ma mb) := tn_2 pu_add ha hb fun _ _ => pe_op (OpR.or (OpR.or op_add op_add_str) op_catS)
end
end Ac
set_option Elab.async false
set_option linter.all false
set_option maxRecDepth 100000
set_option maxHeartbeats 2000000
namespace Ac
open PySem PySem.Spec PyProof.Rows L2
section
variable {X : Cx} {W : WX} {pos : Pos} {a b c e : Expr} {es rest : List Expr} {ma mb mc : MN} {ms : List MN}
def kDs : List RV → (List PyData → Prop) → Prop
  | [], k => k []
  | .d x :: rs, k => kDs rs fun ds => k (x :: ds)
  | _ :: _, _ => False
theorem kDs.of {X : Cx} {C H σ ρ} : ∀ {rvs : List RV} {vs : List V} {k : List PyData → Prop}, RvsOk X C H σ ρ vs rvs → kDs rvs k → ∃ ds, RpL X.K X.w C vs ds ∧ k ds := by
  intro rvs vs k r
  induction r generalizing k with
  | nil => intro h; exact ⟨[], .nil, h⟩
  | @cons v rv vs rvs r _ ih =>
    intro h
    cases rv with
    | d x =>
      obtain ⟨ds, q1, q2⟩ := ih h
      exact ⟨x :: ds, .cons r.1 q1, q2⟩
    | pl i => exact h.elim
    | fld i f => exact h.elim
    | new ev => exact h.elim
def mTup (ms : List MN) : MN := fun ρ Q R => mA ms ρ (fun rs => kDs rs fun ds => Q (.d (.tuple ds))) R
def mLst (ms : List MN) : MN := fun ρ Q R => mA ms ρ (fun rs => kDs rs fun ds => Q (.new (.lst ds))) R
theorem tn_tup {x1} (ha : TrAN X W es (mA ms)) (hl : es.length ≤ 1000 := by decide) : TrN X W (.Tuple es x1 pos) (mTup ms) := by
  refine ⟨fun C H σ ρ φ Q R QQ k q p x => (pe_tup (pa_w es)).to ?_⟩
  refine ha.run C H σ ρ φ _ R _ k q (fun rvs vs C1 H1 q1 n1 r1 hn => ?_) x
  obtain ⟨ds, rd, q1⟩ := kDs.of r1 q1
  refine ⟨Nat.le_of_lt (small1000 (by omega)), fun t ht => ?_⟩
  have n2 := New.tup (xs := vs) n1.ex ht
  exact p _ _ _ _ [] q1 (n1.trans n2) ⟨.tup (.inl (.inl upd_same)) (rd.up n2.core), rfl⟩
theorem tn_lst (ha : TrAN X W es (mA ms)) (hl : es.length ≤ 1000 := by decide) : TrN X W (.List es pos) (mLst ms) := by
  refine ⟨fun C H σ ρ φ Q R QQ k q p x => (pe_lst (pa_w es)).to ?_⟩
  refine ha.run C H σ ρ φ _ R _ k q (fun rvs vs C1 H1 q1 n1 r1 hn => ?_) x
  obtain ⟨ds, rd, q1⟩ := kDs.of r1 q1
  refine ⟨Nat.le_of_lt (small1000 (by omega)), fun t ht => ?_⟩
  exact p _ _ _ _ [t] q1 (n1.trans (New.lst n1.ex ht)) (.b (.lst upd_same rd))
inductive Out where
  | ok (ev : EV)
  | exc (c : Str)
abbrev GR := List PyData → Out → Prop
def spP (K : PySem.W.Frag) (w : World) (mg : Str → Option Value) (g : GR) : Sp := fun vs H Q E => ∃ C ds out, Same C H ∧ RpL K w C vs ds ∧ g ds out ∧ (match out with
  | .ok ev => ∀ v C2 H2 F, New C H C2 H2 F → Own K w mg C2 H2 v ev F → Q v H2
  | .exc c => ∀ a C2 H2, New C H C2 H2 [] → mg c = some (.ref a) → E (.ref a) none H2)
/-- a def that may be called by its name -/
structure Cl (P : Program) (w : World) (K : PySem.W.Frag) (mg : Str → Option Value) (base : Heap) (k : Nat) (x : Str) (g : GR) : Prop where
  ex : ∃ f fd ps, mg x = some (.ref f) ∧ PySem.W.keepIn K (.ref f) = true ∧ Binds K fd ps [] ∧ FnOk P w K mg base (L2.CX P w) k f fd ps (spP K w mg g)
theorem Cl.mono {P w K mg base k j x g} (h : Cl P w K mg base k x g) (hj : k ≤ j) : Cl P w K mg base j x g := by
  obtain ⟨f, fd, ps, h1, h2, h3, h4⟩ := h.ex
  exact ⟨f, fd, ps, h1, h2, h3, h4.mono hj⟩
mutual
/-- no list, no dict within -/
def tight : PyData → Bool
  | .list _ => false
  | .dict _ => false
  | .tuple xs => tightL xs
  | _ => true
def tightL : List PyData → Bool
  | [] => true
  | x :: xs => tight x && tightL xs
end
section
variable {K : PySem.W.Frag} {w : World} {C C' H : Hp}
mutual
theorem Rp.tight (e : ∀ a xs, C a = some (.tup xs) → C' a = some (.tup xs)) (e2 : ∀ a o u, C a = some (.frz o u) → C' a = some (.frz o u)) : ∀ (d : PyData) (v : V), Ac.tight d = true → Rp K w C v d → Rp K w C' v d
  | .none, _, _, h => by cases h; exact .non
  | .bool b, _, _, h => by cases h; exact .bl b
  | .int i, _, _, h => by cases h; exact .int i
  | .str x, _, _, h => by cases h; exact .str x
  | .list ds, _, t, h => by simp [Ac.tight] at t
  | .tuple ds, _, t, h => by
    cases h with
    | tup hs ha =>
      refine .tup ?_ (RpL.tight e e2 ds _ (by simpa only [Ac.tight] using t) ha)
      rcases hs with (h | ⟨o, h⟩) | h
      · exact .inl (.inl (e _ _ h))
      · exact .inl (.inr ⟨o, e2 _ _ _ h⟩)
      · exact .inr h
  | .dict kvs, _, t, h => by simp [Ac.tight] at t
theorem RpL.tight (e : ∀ a xs, C a = some (.tup xs) → C' a = some (.tup xs)) (e2 : ∀ a o u, C a = some (.frz o u) → C' a = some (.frz o u)) : ∀ (ds : List PyData) (vs : List V), Ac.tightL ds = true → RpL K w C vs ds → RpL K w C' vs ds
  | [], _, _, h => by cases h; exact .nil
  | d :: ds, _, t, h => by
    have t2 : Ac.tight d = true ∧ Ac.tightL ds = true := by simpa [Ac.tightL] using t
    cases h with
    | cons h1 h2 => exact .cons (Rp.tight e e2 d _ t2.1 h1) (RpL.tight e e2 ds _ t2.2 h2)
end
end
def tightEV : EV → Bool
  | .dat x => tight x
  | .lst xs => tightL xs
  | _ => false
def isDat : EB → Bool
  | .dat _ => true
  | _ => false
def rvEv : EV → RV
  | .dat x => .d x
  | .lst xs => .new (.lst xs)
  | .dct t k => .new (.dct t k)
  | .obj c fs => .new (.obj c fs)
  | .opq v => .new (.opq v)
def mCall (g : GR) (ms : List MN) : MN := fun ρ Q R => mA ms ρ (fun rs => kLooks ρ rs fun es => ∃ out, g (es.map EB.frz) out ∧ (match out with
  | .ok ev => (es.all isDat || tightEV ev) = true ∧ Q (rvEv ev)
  | .exc c => R c)) R
/-- neither a tuple nor a locked thing -/
def NoTup (H : Hp) (a : Addr) : Prop := H a ≠ none ∧ (∀ xs, H a ≠ some (.tup xs)) ∧ ∀ o u, H a ≠ some (.frz o u)
theorem NoTup.lst {H : Hp} {a : Addr} {vs : List V} (h : H a = some (.lst vs)) : NoTup H a := by
  unfold NoTup; rw [h]
  exact ⟨(fun z => nomatch z), (fun _ z => nomatch z), (fun _ _ z => nomatch z)⟩
theorem NoTup.dct {w : World} {H : Hp} {a : Addr} {t : Bool} {ps : List (DKey × V)} (h : DcT w H a t ps) : NoTup H a := by
  unfold NoTup
  cases t with
  | false => obtain ⟨k, e, _⟩ := h; rw [e]; exact ⟨(fun z => nomatch z), (fun _ z => nomatch z), (fun _ _ z => nomatch z)⟩
  | true => obtain ⟨k, e, _⟩ := h; rw [e]; exact ⟨(fun z => nomatch z), (fun _ z => nomatch z), (fun _ _ z => nomatch z)⟩
theorem OwnC.noTup {K w C H} : ∀ {ps kvs F}, OwnC K w C H ps kvs F → ∀ a ∈ F, NoTup H a := by
  intro ps kvs F h
  induction h with
  | nil => exact fun _ z => nomatch z
  | cons _ _ _ ih => exact ih
  | consL _ q _ _ ih =>
    intro a ha
    rcases List.mem_cons.mp ha with rfl | ha
    · exact .lst q
    · exact ih a ha
theorem OwnB.noTup {K w C H v e F} (h : OwnB K w C H v e F) : ∀ a ∈ F, NoTup H a := by
  cases h with
  | dat _ => exact fun _ z => nomatch z
  | lst q _ =>
    intro a ha
    rcases List.mem_cons.mp ha with rfl | ha
    · exact .lst q
    · cases ha
  | dct q1 q2 _ =>
    intro a ha
    rcases List.mem_cons.mp ha with rfl | ha
    · exact .dct q1
    · exact q2.noTup a ha
theorem ov_sub {C H : Hp} {F G : List Addr} (hF : ∀ a ∈ F, a ∈ G) (hG : ∀ a ∈ G, C a = none) : Same (ov C H F) (ov C H G) := fun a ob z => by
  unfold ov at z ⊢
  by_cases h : a ∈ F
  · rw [if_pos h] at z
    rw [if_pos (hF a h)]; exact z
  · rw [if_neg h] at z
    by_cases hG' : a ∈ G
    · rw [hG a hG'] at z; cases z
    · rw [if_neg hG']; exact z
/-- the owned things among the operands, frozen for the while -/
theorem Views.frz {C H : Hp} {vs : List V} {es : List EB} (h : Views X C H vs es) : ∃ F : List Addr, RpL X.K X.w (ov C H F) vs (es.map EB.frz) ∧ (∀ a ∈ F, C a = none) ∧ (∀ a ∈ F, NoTup H a) ∧ (es.all isDat = true → F = []) := by
  induction h with
  | nil => exact ⟨[], .nil, (fun _ z => nomatch z), (fun _ z => nomatch z), (fun _ => rfl)⟩
  | @cons v e vs es hv _ ih =>
    obtain ⟨F, r, h1, h2, h3⟩ := ih
    obtain ⟨G, o, s⟩ := hv
    have hGF : ∀ a ∈ G ++ F, C a = none := fun a ha => (List.mem_append.mp ha).elim (s a) (h1 a)
    refine ⟨G ++ F, .cons ((o.frz s).up (ov_sub (fun a ha => List.mem_append_left _ ha) hGF)) (r.up (ov_sub (fun a ha => List.mem_append_right _ ha) hGF)), hGF, fun a ha => (List.mem_append.mp ha).elim (o.noTup a) (h2 a), fun hd => ?_⟩
    simp only [List.all_cons, Bool.and_eq_true] at hd
    rw [h3 hd.2]
    cases o with
    | dat _ => rfl
    | lst _ _ => exact absurd hd.1 (by simp [isDat])
    | dct _ _ _ => exact absurd hd.1 (by simp [isDat])
/-- what comes back while F was frozen, told without F -/
def off (C : Hp) (F : List Addr) : Hp := fun a => if a ∈ F then none else C a
theorem off_in {C : Hp} {F : List Addr} {a : Addr} (h : a ∈ F) : off C F a = none := by unfold off; rw [if_pos h]
theorem off_ne {C : Hp} {F : List Addr} {a : Addr} (h : a ∉ F) : off C F a = C a := by unfold off; rw [if_neg h]
theorem New.thaw {C H C2 H2 : Hp} {F G : List Addr} (hF : ∀ a ∈ F, C a = none) (n : New (ov C H F) H C2 H2 G) : New C H (off C2 F) H2 G where
  core := fun a o e => by
    have nF : a ∉ F := fun z => by rw [hF a z] at e; cases e
    rw [off_ne nF]
    exact n.core a o (by rw [ov_off nF]; exact e)
  heap := n.heap
  ex := fun a o e => by
    by_cases nF : a ∈ F
    · rw [off_in nF] at e; cases e
    · rw [off_ne nF] at e; exact n.ex a o e
  fresh := fun a h c => by
    by_cases nF : a ∈ F
    · exact off_in nF
    · rw [off_ne nF]; exact n.fresh a h (by rw [ov_off nF]; exact c)
  own := fun a h => ⟨(n.own a h).1, by
    by_cases nF : a ∈ F
    · exact off_in nF
    · rw [off_ne nF]; exact (n.own a h).2⟩
theorem Rp.thaw {K w} {C2 H2 : Hp} {F : List Addr} {v : V} {d : PyData} (h : Rp K w C2 v d) (t : Ac.tight d = true) (hF : ∀ a ∈ F, NoTup H2 a) (ex : Same C2 H2) : Rp K w (off C2 F) v d :=
  Rp.tight (fun a xs e => by rw [off_ne fun z => (hF a z).2.1 xs (ex a _ e)]; exact e) (fun a o u e => by rw [off_ne fun z => (hF a z).2.2 o u (ex a _ e)]; exact e) d v t h
theorem RpL.thaw {K w} {C2 H2 : Hp} {F : List Addr} {v : List V} {d : List PyData} (h : RpL K w C2 v d) (t : Ac.tightL d = true) (hF : ∀ a ∈ F, NoTup H2 a) (ex : Same C2 H2) : RpL K w (off C2 F) v d :=
  RpL.tight (fun a xs e => by rw [off_ne fun z => (hF a z).2.1 xs (ex a _ e)]; exact e) (fun a o u e => by rw [off_ne fun z => (hF a z).2.2 o u (ex a _ e)]; exact e) d v t h
theorem off_nil {C : Hp} : off C [] = C := by funext a; exact off_ne (fun z => nomatch z)
theorem NoTup.same {H H2 : Hp} {a : Addr} (h : NoTup H a) (s : Same H H2) : NoTup H2 a := by
  cases q : H a with
  | none => exact absurd q h.1
  | some o =>
    have e := s a o q
    unfold NoTup at h ⊢
    rw [q] at h
    rw [e]; exact h
theorem rvEv_ok {C H : Hp} {σ : Slots} {ρ : Envr} {v : V} {ev : EV} {F : List Addr} (h : Own X.K X.w X.mg C H v ev F) : RvOk X C H σ ρ v F (rvEv ev) := by
  cases ev with
  | b e =>
    cases e with
    | dat x => exact h.dat_inv
    | lst xs => exact h
    | dct t k => exact h
  | obj c fs => exact h
  | opq u => exact h
theorem tn_call {k : Nat} {g : GR} {x : Str} {p : Pos} (hc : Cl X.prog X.w X.K X.mg X.base k x g) (hr : Room k X.A) (hg : Gl X x) (tk : Takes X W) (ha : TrAN X W (e :: es) (mA ms))
    (hdb : (x == ("__debug__" : Str)) = false := by decide) (he : starEach (e :: es) X.env = (false, eval e X.env) :: starEach es X.env := by rfl) (hpl : (backTo pos (starEach es X.env)).any (·.1) = false := by rfl) :
    TrN X W (.Call (.Name x p) (e :: es) [] pos) (mCall g ms) := by
  obtain ⟨f, fd, ps, h1, h2, h3, h4⟩ := hc.ex
  refine ⟨fun C H σ ρ φ Q R QQ k q p x => (pe_callS h4 hr hg h1 h2 h3 (fun σ => passAt tk σ) (pa_w _) hdb he hpl).to ?_⟩
  refine ha.run C H σ ρ φ _ R _ k q (fun rvs vs C1 H1 q1 n1 r1 _ => ?_) x
  obtain ⟨es', l1, l2, q1⟩ := q1.of
  obtain ⟨out, hgo, q1⟩ := q1
  have k1 := k.new n1
  have vw := r1.views k1 l1 l2
  obtain ⟨F, rf, f1, f2, f3⟩ := vw.frz
  refine ⟨ov C1 H1 F, es'.map EB.frz, out, ov_heap n1.ex, rf, hgo, ?_⟩
  cases out with
  | exc c =>
    intro a C2 H2 n2 hm
    exact x c a (off C2 F) H2 q1 (n1.trans (n2.thaw f1)) hm
  | ok ev =>
    obtain ⟨hd, q1⟩ := q1
    intro v C2 H2 G n2 ho
    have n3 := n1.trans (n2.thaw f1)
    refine p _ v (off C2 F) H2 G q1 n3 (rvEv_ok ?_)
    have hF2 : ∀ a ∈ F, NoTup H2 a := fun a ha => (f2 a ha).same n2.heap
    cases hdd : es'.all isDat with
    | true =>
      rw [f3 hdd, off_nil]
      exact ho
    | false =>
      rw [hdd, Bool.false_or] at hd
      cases ev with
      | obj c fs => exact absurd hd (by simp [tightEV])
      | opq u => exact absurd hd (by simp [tightEV])
      | b e =>
        cases e with
        | dat x =>
          obtain ⟨r, rfl⟩ := ho.dat_inv
          exact .b (.dat (r.thaw hd hF2 n2.ex))
        | lst xs =>
          cases ho with
          | b o => cases o with
            | lst o1 o2 => exact .b (.lst o1 (o2.thaw hd hF2 n2.ex))
        | dct t kk => exact absurd hd (by simp [tightEV])
end
end Ac
set_option Elab.async false
set_option linter.all false
set_option maxRecDepth 100000
set_option maxHeartbeats 2000000
namespace Ac
open PySem PySem.Spec PyProof.Rows L2
def setPh (φ : Ph) (j : Nat) (F : List Addr) : Ph := fun i => if i = j then F else φ i
theorem setPh_same {φ : Ph} {j F} : setPh φ j F j = F := by unfold setPh; rw [if_pos rfl]
theorem setPh_ne {φ : Ph} {i j F} (h : i ≠ j) : setPh φ j F i = φ i := by unfold setPh; rw [if_neg h]
theorem mem_setPh {φ : Ph} {i j : Nat} {F : List Addr} {a : Addr} (h : a ∈ setPh φ j F i) : (i = j ∧ a ∈ F) ∨ (i ≠ j ∧ a ∈ φ i) := by
  by_cases e : i = j
  · subst e; rw [setPh_same] at h; exact .inl ⟨rfl, h⟩
  · rw [setPh_ne e] at h; exact .inr ⟨e, h⟩
section
variable {K : PySem.W.Frag} {w : World} {mg : Str → Option Value} {C H C2 H2 : Hp} {σ : Slots} {ρ : Envr} {φ : Ph}
/-- a name is stored: v is the thing ev, of the footprint F -/
theorem Ok.set (k : Ok K w mg C H σ ρ φ) {j : Nat} {v : V} {ev : EV} {F : List Addr} (hj : j < σ.length) (o : Own K w mg C H v ev F) (hF : ∀ a ∈ F, C a = none ∧ ¬ Sof φ a) : Ok K w mg C H (σ.set j (some v)) (ρ.set j (some ev)) (setPh φ j F) where
  ex := k.ex
  own := fun i e h => by
    by_cases q : i = j
    · subst q
      rw [List.getElem?_set_self (by rw [k.len]; exact hj)] at h
      cases h
      exact ⟨v, List.getElem?_set_self hj, by rw [setPh_same]; exact o⟩
    · rw [List.getElem?_set_ne (Ne.symm q)] at h
      obtain ⟨u, e1, o1⟩ := k.own i e h
      exact ⟨u, by rw [List.getElem?_set_ne (Ne.symm q)]; exact e1, by rw [setPh_ne q]; exact o1⟩
  off := fun i h => by
    by_cases q : i = j
    · subst q
      exact absurd (List.getElem?_set_self (by rw [k.len]; exact hj)) (h ev)
    · rw [setPh_ne q]
      exact k.off i fun e z => h e (by rw [List.getElem?_set_ne (Ne.symm q)]; exact z)
  dis := fun i i' a h h' => by
    rcases mem_setPh h with ⟨rfl, q⟩ | ⟨n, q⟩
    · rcases mem_setPh h' with ⟨rfl, q'⟩ | ⟨n', q'⟩
      · rfl
      · exact absurd ⟨_, q'⟩ (hF a q).2
    · rcases mem_setPh h' with ⟨rfl, q'⟩ | ⟨n', q'⟩
      · exact absurd ⟨_, q⟩ (hF a q').2
      · exact k.dis i i' a q q'
  sep := fun i a h => by
    rcases mem_setPh h with ⟨rfl, q⟩ | ⟨n, q⟩
    · exact (hF a q).1
    · exact k.sep i a q
  len := by rw [List.length_set, List.length_set]; exact k.len
theorem Sof.set {j : Nat} {F : List Addr} {a : Addr} (h : Sof (setPh φ j F) a) : Sof φ a ∨ a ∈ F := by
  obtain ⟨i, h⟩ := h
  rcases mem_setPh h with ⟨rfl, q⟩ | ⟨n, q⟩
  · exact .inr q
  · exact .inl ⟨i, q⟩
theorem Ok.setDat (k : Ok K w mg C H σ ρ φ) {j : Nat} {v : V} {x : PyData} (hj : j < σ.length) (o : Rp K w C v x) : Ok K w mg C H (σ.set j (some v)) (ρ.set j (some (.dat x))) (setPh φ j []) := k.set hj (.b (.dat o)) (fun _ z => nomatch z)
/-- a place frozen -/
theorem Ok.frz (k : Ok K w mg C H σ ρ φ) {j : Nat} {e : EB} (h : ρ[j]? = some (some (.b e))) : Ok K w mg (ov C H (φ j)) H σ (ρ.set j (some (.dat e.frz))) (setPh φ j []) ∧ Step C H (Sof φ) (ov C H (φ j)) H (Sof (setPh φ j [])) ∧ (∃ v, σ[j]? = some (some v) ∧ Rp K w (ov C H (φ j)) v e.frz) := by
  obtain ⟨v, e1, o⟩ := k.own j _ h
  have hC : ∀ a ∈ φ j, C a = none := k.sep j
  have up : Same C (ov C H (φ j)) := ov_core hC
  have hr : Rp K w (ov C H (φ j)) v e.frz := by
    generalize φ j = G at o hC
    cases o with
    | b o => exact o.frz hC
  have hj : j < σ.length := (List.getElem?_eq_some_iff.mp e1).1
  refine ⟨⟨ov_heap k.ex, fun i ev q => ?_, fun i q => ?_, fun i i' a q q' => ?_, fun i a q => ?_, by rw [List.length_set]; exact k.len⟩, ⟨up, fun a o q _ => q, fun a q c n => ⟨?_, fun z => ?_⟩⟩, v, e1, hr⟩
  · by_cases z : i = j
    · subst z
      rw [List.getElem?_set_self (by rw [k.len]; exact hj)] at q
      cases q
      exact ⟨v, e1, by rw [setPh_same]; exact .b (.dat hr)⟩
    · rw [List.getElem?_set_ne (Ne.symm z)] at q
      obtain ⟨u, e2, o2⟩ := k.own i ev q
      exact ⟨u, e2, by rw [setPh_ne z]; exact o2.up up⟩
  · by_cases z : i = j
    · subst z; exact setPh_same
    · rw [setPh_ne z]
      exact k.off i fun ev q' => q ev (by rw [List.getElem?_set_ne (Ne.symm z)]; exact q')
  · rcases mem_setPh q with ⟨_, q1⟩ | ⟨n, q1⟩
    · exact nomatch q1
    · rcases mem_setPh q' with ⟨_, q2⟩ | ⟨n', q2⟩
      · exact nomatch q2
      · exact k.dis i i' a q1 q2
  · rcases mem_setPh q with ⟨_, q1⟩ | ⟨n, q1⟩
    · exact nomatch q1
    · rw [ov_off fun z => n (k.dis i j a q1 z)]
      exact k.sep i a q1
  · rw [ov_off fun z => n ⟨j, z⟩]; exact c
  · rcases z.set with z | z
    · exact n z
    · cases z
end
structure DS where
  nx : Envr → Prop
  rt : RV → Envr → Prop
  bk : Envr → Prop
  ct : Envr → Prop
  xc : RX
abbrev MS := Envr → DS → Prop
def Agree (pin : List Nat) (σ σ2 : Slots) : Prop := ∀ i ∈ pin, σ2[i]? = σ[i]?
theorem Agree.refl {pin σ} : Agree pin σ σ := fun _ _ => rfl
theorem Agree.trans {pin σ σ2 σ3} (a : Agree pin σ σ2) (b : Agree pin σ2 σ3) : Agree pin σ σ3 := fun i h => (b i h).trans (a i h)
theorem Agree.set {pin σ} {j : Nat} {v : Option V} (h : j ∉ pin) : Agree pin σ (σ.set j v) := fun i hi => List.getElem?_set_ne fun z => h (by rw [z]; exact hi)
structure SPost (X : Cx) (W : WX) (pin : List Nat) (D : DS) (DD : Ends) (C H : Hp) (σ : Slots) (φ : Ph) : Prop where
  nx : ∀ ρ2 σ2 C2 H2 φ2, D.nx ρ2 → OkX X C2 H2 σ2 ρ2 φ2 → Step C H (Sof φ) C2 H2 (Sof φ2) → Agree pin σ σ2 → DD.nx σ2 H2
  rt : ∀ rv ρ2 σ2 v C2 H2 φ2 F, D.rt rv ρ2 → OkX X C2 H2 σ2 ρ2 φ2 → Step C H (Sof φ) C2 H2 (fun a => Sof φ2 a ∨ a ∈ F) → RvOk X C2 H2 σ2 ρ2 v F rv → (∀ a ∈ F, C2 a = none ∧ ¬ Sof φ2 a) → Agree pin σ σ2 → DD.rt v H2
  bk : ∀ ρ2 σ2 C2 H2 φ2, D.bk ρ2 → OkX X C2 H2 σ2 ρ2 φ2 → Step C H (Sof φ) C2 H2 (Sof φ2) → Agree pin σ σ2 → DD.bk σ2 H2
  ct : ∀ ρ2 σ2 C2 H2 φ2, D.ct ρ2 → OkX X C2 H2 σ2 ρ2 φ2 → Step C H (Sof φ) C2 H2 (Sof φ2) → Agree pin σ σ2 → DD.ct σ2 H2
  xc : ∀ c ρ2 σ2 a C2 H2 φ2, D.xc c ρ2 → OkX X C2 H2 σ2 ρ2 φ2 → Step C H (Sof φ) C2 H2 (Sof φ2) → Agree pin σ σ2 → X.mg c = some (.ref a) → W (.ref a) none σ2 H2
theorem SPost.step {X W pin D DD C H σ φ C2 H2 σ2 φ2} (p : SPost X W pin D DD C H σ φ) (s : Step C H (Sof φ) C2 H2 (Sof φ2)) (sep : ∀ a, Sof φ2 a → C2 a = none) (ag : Agree pin σ σ2) : SPost X W pin D DD C2 H2 σ2 φ2 where
  nx := fun ρ3 σ3 C3 H3 φ3 q k t a => p.nx ρ3 σ3 C3 H3 φ3 q k (s.trans t sep) (ag.trans a)
  rt := fun rv ρ3 σ3 v C3 H3 φ3 F q k t r f a => p.rt rv ρ3 σ3 v C3 H3 φ3 F q k (s.trans t sep) r f (ag.trans a)
  bk := fun ρ3 σ3 C3 H3 φ3 q k t a => p.bk ρ3 σ3 C3 H3 φ3 q k (s.trans t sep) (ag.trans a)
  ct := fun ρ3 σ3 C3 H3 φ3 q k t a => p.ct ρ3 σ3 C3 H3 φ3 q k (s.trans t sep) (ag.trans a)
  xc := fun c ρ3 σ3 a' C3 H3 φ3 q k t a => p.xc c ρ3 σ3 a' C3 H3 φ3 q k (s.trans t sep) (ag.trans a)
theorem SPost.x {X W pin D DD C H σ φ} (p : SPost X W pin D DD C H σ φ) : XPost X W D.xc C H σ φ := fun c ρ2 a C2 H2 φ2 q k s m => p.xc c ρ2 σ a C2 H2 φ2 q k s .refl m
structure TrS (X : Cx) (W : WX) (pin : List Nat) (st : Stmt) (m : MS) : Prop where
  run : ∀ (C H : Hp) (σ : Slots) (ρ : Envr) (φ : Ph) (D : DS) (DD : Ends), OkX X C H σ ρ φ → m ρ D → SPost X W pin D DD C H σ φ → WS X st DD σ H
structure TrB (X : Cx) (W : WX) (pin : List Nat) (st : List Stmt) (m : MS) : Prop where
  run : ∀ (C H : Hp) (σ : Slots) (ρ : Envr) (φ : Ph) (D : DS) (DD : Ends), OkX X C H σ ρ φ → m ρ D → SPost X W pin D DD C H σ φ → WB X st DD σ H
section
variable {X : Cx} {W : WX} {pin : List Nat} {pos : Pos} {st : Stmt} {sts rest : List Stmt} {e a b : Expr} {m m' : MS} {me : ME} {mt : MT} {mn : MN}
def mSkip : MS := fun ρ D => D.nx ρ
def mSeq (a b : MS) : MS := fun ρ D => a ρ { D with nx := fun ρ' => b ρ' D }
theorem tb_nil : TrB X W pin [] mSkip := ⟨fun C H σ ρ φ D DD k q p => pss_nil.to (p.nx ρ σ C H φ q k .refl .refl)⟩
theorem tb_cons (h1 : TrS X W pin st m) (h2 : TrB X W pin rest m') : TrB X W pin (st :: rest) (mSeq m m') :=
  ⟨fun C H σ ρ φ D DD k q p => (pss_cons (ps_w st) (pb_w rest)).to (h1.run C H σ ρ φ _ { DD with nx := WB X rest DD } k q
    ⟨fun ρ2 σ2 C2 H2 φ2 q2 k2 s2 a2 => h2.run C2 H2 σ2 ρ2 φ2 D DD k2 q2 (p.step s2 k2.sepS a2), p.rt, p.bk, p.ct, p.xc⟩)⟩
theorem tb_one (h1 : TrS X W pin st m) : TrB X W pin [st] m := ⟨fun C H σ ρ φ D DD k q p => (pss_one (ps_w st)).to (h1.run C H σ ρ φ D DD k q p)⟩
def mBrk : MS := fun ρ D => D.bk ρ
def mCnt : MS := fun ρ D => D.ct ρ
theorem ts_pass : TrS X W pin (.Pass pos) mSkip := ⟨fun C H σ ρ φ D DD k q p => ps_pass.to (p.nx ρ σ C H φ q k .refl .refl)⟩
theorem ts_brk : TrS X W pin (.Break pos) mBrk := ⟨fun C H σ ρ φ D DD k q p => ps_break.to (p.bk ρ σ C H φ q k .refl .refl)⟩
theorem ts_cnt : TrS X W pin (.Continue pos) mCnt := ⟨fun C H σ ρ φ D DD k q p => ps_continue.to (p.ct ρ σ C H φ q k .refl .refl)⟩
/-- an expression whose value is dropped -/
def mDrop (m : ME) : MS := fun ρ D => m ρ (fun _ ρ' => D.nx ρ') D.xc
theorem ts_expr (he : TrE X W e me) (hs : swapsWith e none pos.line X.env = pure false := by rfl) : TrS X W pin (.Expr e pos) (mDrop me) :=
  ⟨fun C H σ ρ φ D DD k q p => (ps_expr (pe_w e) hs).to (he.run C H σ ρ φ _ _ _ k q (fun rv ρ2 v C2 H2 φ2 F q2 k2 s2 r2 f2 => p.nx ρ2 σ C2 H2 φ2 q2 k2 (s2.imp fun _ z => .inl z) .refl) p.x)⟩
def mRet (m : ME) : MS := fun ρ D => m ρ D.rt D.xc
theorem ts_ret (he : TrE X W e me) : TrS X W pin (.Return (some e) pos) (mRet me) :=
  ⟨fun C H σ ρ φ D DD k q p => (ps_ret (pe_w e)).to (he.run C H σ ρ φ _ _ _ k q (fun rv ρ2 v C2 H2 φ2 F q2 k2 s2 r2 f2 => p.rt rv ρ2 σ v C2 H2 φ2 F q2 k2 s2 r2 f2 .refl) p.x)⟩
def mRetN : MS := fun ρ D => D.rt (.d .none) ρ
theorem ts_retN : TrS X W pin (.Return none pos) mRetN := ⟨fun C H σ ρ φ D DD k q p => ps_retN.to (p.rt _ ρ σ _ C H φ [] q k (Step.none (New.refl k.ex) |>.imp fun _ z => z.elim id fun z => nomatch z) ⟨.non, rfl⟩ (fun _ z => nomatch z) .refl)⟩
def mIf (t : MT) (a b : MS) : MS := fun ρ D => t ρ (fun k ρ' => bif k then a ρ' D else b ρ' D) D.xc
theorem ts_if (ht : TrT X W e mt) (ha : TrB X W pin sts m) (hb : TrB X W pin rest m') : TrS X W pin (.If e sts rest pos) (mIf mt m m') := by
  refine ⟨fun C H σ ρ φ D DD k q p => (ps_if (pt_w e) (pb_w sts) (pb_w rest)).to ?_⟩
  refine ht.run C H σ ρ φ _ _ _ k q (fun bb ρ2 C2 H2 φ2 q2 k2 s2 => ?_) p.x
  cases bb with
  | true => exact iteT (ha.run C2 H2 σ ρ2 φ2 D DD k2 q2 (p.step s2 k2.sepS .refl))
  | false => exact iteF (hb.run C2 H2 σ ρ2 φ2 D DD k2 q2 (p.step s2 k2.sepS .refl))
/-- a result moved: what it holds is frozen where it stands -/
def kMv : RV → Envr → (EV → Envr → Prop) → Prop
  | .d x, ρ, k => k (.dat x) ρ
  | .new ev, ρ, k => k ev ρ
  | .pl j, ρ, k => (match ρ[j]? with
    | some (some (.b e)) => k (.dat e.frz) (ρ.set j (some (.dat e.frz)))
    | _ => False)
  | .fld _ _, _, _ => False
theorem kMv.run {C H σ ρ φ v F rv} {k : EV → Envr → Prop} (ok : OkX X C H σ ρ φ) (hF : ∀ a ∈ F, C a = none ∧ ¬ Sof φ a) (r : RvOk X C H σ ρ v F rv) (h : kMv rv ρ k) :
    ∃ ev ρ2 C2 φ2 G, k ev ρ2 ∧ OkX X C2 H σ ρ2 φ2 ∧ Step C H (fun a => Sof φ a ∨ a ∈ F) C2 H (fun a => Sof φ2 a ∨ a ∈ G) ∧ Own X.K X.w X.mg C2 H v ev G ∧ (∀ a ∈ G, C2 a = none ∧ ¬ Sof φ2 a) := by
  cases rv with
  | d x =>
    obtain ⟨r, rfl⟩ := r
    exact ⟨_, ρ, C, φ, [], h, ok, .refl, .b (.dat r), fun _ z => nomatch z⟩
  | new ev => exact ⟨ev, ρ, C, φ, F, h, ok, .refl, r, hF⟩
  | pl j =>
    obtain ⟨r, rfl⟩ := r
    change (match ρ[j]? with
      | some (some (.b e)) => k (.dat e.frz) (ρ.set j (some (.dat e.frz)))
      | _ => False) at h
    split at h
    · rename_i e he
      obtain ⟨k2, s2, u, e1, rr⟩ := ok.frz he
      rw [r] at e1; cases e1
      exact ⟨_, _, _, _, [], h, k2, ⟨s2.core, fun a o q n => s2.keep a o q fun z => n (.inl z), fun a q c n => ⟨(s2.off a q c fun z => n (.inl z)).1, fun z => z.elim (s2.off a q c fun z => n (.inl z)).2 (fun z => nomatch z)⟩⟩, .b (.dat rr), fun _ z => nomatch z⟩
    · exact h.elim
  | fld i f => exact h.elim
def mSet (i : Nat) (m : ME) : MS := fun ρ D => m ρ (fun rv ρ' => kMv rv ρ' fun ev ρ2 => D.nx (ρ2.set i (some ev))) D.xc
theorem ts_set (i : Nat) {x : Str} {pos' : Pos} (he : TrE X W e me) (hN : X.N.Nodup) (hi : X.N[i]? = some x := by rfl) (hx : Loc X.env.scope x := by first | exact Or.inl rfl | exact Or.inr rfl) (hp : i ∉ pin := by decide) (hs : swapsWith e (some (.Name x pos')) pos.line X.env = pure false := by rfl)
    (hf : X.fn x = true ∨ X.env.scope.names.lookup x = some .local := by first | exact .inl rfl | exact .inr rfl) : TrS X W pin (.Assign [.Name x pos'] e pos) (mSet i me) := by
  refine ⟨fun C H σ ρ φ D DD k q p pins s I => ?_⟩
  have hl : i < σ.length := by rw [I.len]; exact (List.getElem?_eq_some_iff.mp hi).1
  refine (ps_set hN hi hx (pe_w e) hs hf).to ?_ pins s I
  refine he.run C H σ ρ φ _ _ _ k q (fun rv ρ2 v C2 H2 φ2 F q2 k2 s2 r2 f2 => ?_) p.x
  obtain ⟨ev, ρ3, C3, φ3, G, q3, k3, s3, o3, g3⟩ := kMv.run k2 f2 r2 q2
  refine p.nx _ _ C3 H2 _ q3 (k3.set hl o3 g3) ?_ (.set hp)
  refine (s2.trans s3 fun a z => z.elim (k2.sepS a) fun z => (f2 a z).1).imp fun a z => z.set
abbrev MG := PyData → Envr → (Envr → Prop) → Prop
def WG (X : Cx) (tg : Expr) : TG := fun v σ H Q => ∀ (pins : List (Addr × Obj)) (s : Shared) (u : Value), Inv X pins σ H s → RelV v u → wpAny (model X.prog X.w) X.A (assign tg X.env u) (fun _ s' => ∃ σ' H', Inv X pins σ' H' s' ∧ Q σ' H') X.xe s
theorem pg_w (tg : Expr) : PG X tg (WG X tg) := ⟨fun pins s σ H v u Q I r h => h pins s u I r⟩
structure TrG (X : Cx) (pin : List Nat) (tg : Expr) (m : MG) : Prop where
  run : ∀ (C H : Hp) (σ : Slots) (ρ : Envr) (φ : Ph) (v : V) (x : PyData) (Q : Envr → Prop) (QQ : Slots → Hp → Prop), OkX X C H σ ρ φ → Rp X.K X.w C v x → m x ρ Q →
    (∀ ρ2 σ2 φ2, Q ρ2 → OkX X C H σ2 ρ2 φ2 → Step C H (Sof φ) C H (Sof φ2) → Agree pin σ σ2 → QQ σ2 H) → WG X tg v σ H QQ
def gNm (i : Nat) : MG := fun x ρ Q => Q (ρ.set i (some (.dat x)))
theorem Step.less {C H : Hp} {S S2 : Addr → Prop} (h : ∀ a, S2 a → S a) : Step C H S C H S2 := Step.refl.imp h
theorem tg_name (i : Nat) {x : Str} (hN : X.N.Nodup) (hi : X.N[i]? = some x := by rfl) (hx : Loc X.env.scope x := by first | exact Or.inl rfl | exact Or.inr rfl) (hp : i ∉ pin := by decide)
    (hf : X.fn x = true ∨ X.env.scope.names.lookup x = some .local := by first | exact .inl rfl | exact .inr rfl) : TrG X pin (.Name x pos) (gNm i) := by
  refine ⟨fun C H σ ρ φ v x Q QQ k r q p pins s u I ru => ?_⟩
  have hl : i < σ.length := by rw [I.len]; exact (List.getElem?_eq_some_iff.mp hi).1
  refine (pg_name hN hi hx hf).run pins s σ H v u QQ I ru ?_
  exact p _ _ _ q (k.setDat hl r) (Step.less fun a z => z.set.elim id fun z => nomatch z) (.set hp)
/-- several targets -/
def mGs : List MG → List PyData → Envr → (Envr → Prop) → Prop
  | [], [], ρ, Q => Q ρ
  | g :: gs, x :: xs, ρ, Q => g x ρ fun ρ' => mGs gs xs ρ' Q
  | _, _, _, _ => False
def WGs (X : Cx) (ts : List Expr) : TGs := fun vs σ H Q => ∀ (pins : List (Addr × Obj)) (s : Shared) (us : List Value), Inv X pins σ H s → Vals vs us →
  wpAny (model X.prog X.w) X.A (assignInOrder ((assignEach ts X.env).map (·.2)) us) (fun _ s' => ∃ σ' H', Inv X pins σ' H' s' ∧ Q σ' H') X.xe s
theorem pgs_w (ts : List Expr) : PGs X ts (WGs X ts) := ⟨fun pins s σ H vs us Q I r h => h pins s us I r⟩
structure TrGs (X : Cx) (pin : List Nat) (ts : List Expr) (ms : List MG) : Prop where
  run : ∀ (C H : Hp) (σ : Slots) (ρ : Envr) (φ : Ph) (vs : List V) (xs : List PyData) (Q : Envr → Prop) (QQ : Slots → Hp → Prop), OkX X C H σ ρ φ → RpL X.K X.w C vs xs → mGs ms xs ρ Q →
    (∀ ρ2 σ2 φ2, Q ρ2 → OkX X C H σ2 ρ2 φ2 → Step C H (Sof φ) C H (Sof φ2) → Agree pin σ σ2 → QQ σ2 H) → WGs X ts vs σ H QQ
theorem tgs_nil : TrGs X pin [] [] := ⟨fun C H σ ρ φ vs xs Q QQ k r q p pins s us I ru => by
  cases r with
  | nil => exact pgs_nil.run pins s σ H [] us QQ I ru ⟨rfl, p ρ σ φ q k .refl .refl⟩
  | cons _ _ => exact q.elim⟩
theorem tgs_cons {g : MG} {gs : List MG} {ts : List Expr} (h1 : TrG X pin e g) (h2 : TrGs X pin ts gs) (hs : (assignEach (e :: ts) X.env).map (·.2) = assign e X.env :: (assignEach ts X.env).map (·.2) := by rfl) : TrGs X pin (e :: ts) (g :: gs) :=
  ⟨fun C H σ ρ φ vs xs Q QQ k r q p pins s us I ru => by
  cases r with
  | nil => exact q.elim
  | @cons v vs x xs r1 r2 =>
    refine (pgs_cons (pg_w e) (pgs_w ts) hs).run pins s σ H (v :: vs) us QQ I ru ⟨v, vs, rfl, ?_⟩
    refine h1.run C H σ ρ φ v x _ _ k r1 q fun ρ2 σ2 φ2 q2 k2 s2 a2 => ?_
    exact h2.run C H σ2 ρ2 φ2 vs xs Q QQ k2 r2 q2 fun ρ3 σ3 φ3 q3 k3 s3 a3 => p ρ3 σ3 φ3 q3 k3 (s2.trans s3 k2.sepS) (a2.trans a3)⟩
def gTp (gs : List MG) : MG := fun x ρ Q => match x with
  | .tuple xs => xs.length = gs.length ∧ mGs gs xs ρ Q
  | _ => False
theorem tg_tup {gs : List MG} {es : List Expr} {kk : Nat} (hc : X.calm = true) (h : TrGs X pin es gs) (hn : (assignEach es X.env).length = gs.length := by rfl) (hst : (assignEach es X.env).findIdx? (·.1) = none := by rfl) : TrG X pin (.Tuple es kk pos) (gTp gs) := by
  refine ⟨fun C H σ ρ φ v x Q QQ k r q p pins s u I ru => ?_⟩
  cases r with
  | @tup a vs ds h1 h2 =>
    refine (pg_tup hc (pgs_w es) hn hst).run pins s σ H _ u QQ I ru ⟨a, vs, rfl, sqT_mono k.ex h1, by rw [h2.length]; exact q.1, ?_⟩
    exact h.run C H σ ρ φ vs ds Q QQ k h2 q.2 p
  | _ => exact q.elim
/-- target = data -/
def kDat : EV → (PyData → Prop) → Prop
  | .dat x, k => k x
  | .b e, k => k e.frz
  | _, _ => False
def mAsg (g : MG) (m : ME) : MS := fun ρ D => m ρ (fun rv ρ' => match rv with
  | .d x => g x ρ' D.nx
  | _ => False) D.xc
theorem ts_asg {tg : Expr} {g : MG} (he : TrE X W e me) (hg : TrG X pin tg g) (hs : swapsWithSole [tg] e pos.line X.env = pure false := by rfl) (hw : swappedStores [tg] e X.env = pure none := by rfl)
    (h1 : (assignEach [tg] X.env).map (·.2) = [assign tg X.env] := by rfl) : TrS X W pin (.Assign [tg] e pos) (mAsg g me) := by
  refine ⟨fun C H σ ρ φ D DD k q p => (ps_asg (pe_w e) (pg_w tg) hs hw h1).to ?_⟩
  refine he.run C H σ ρ φ _ _ _ k q (fun rv ρ2 v C2 H2 φ2 F q2 k2 s2 r2 f2 => ?_) p.x
  cases rv with
  | d x =>
    obtain ⟨r, rfl⟩ := r2
    refine hg.run C2 H2 σ ρ2 φ2 v x _ _ k2 r q2 fun ρ3 σ3 φ3 q3 k3 s3 a3 => ?_
    exact p.nx ρ3 σ3 C2 H2 φ3 q3 k3 ((s2.imp fun _ z => .inl z).trans s3 k2.sepS) a3
  | _ => exact q2.elim
def mWhile (t : MT) (b : MS) : MS := fun ρ D => ∃ Inv : Nat → Envr → Prop, (∃ n, Inv n ρ) ∧ ∀ n ρ, Inv n ρ →
  t ρ (fun k ρ' => bif k then b ρ' { D with nx := fun ρ2 => ∃ m, m < n ∧ Inv m ρ2, ct := fun ρ2 => ∃ m, m < n ∧ Inv m ρ2, bk := D.nx } else D.nx ρ') D.xc
theorem ts_while (hp : PassesOwn (model X.prog X.w) X.A X.env X.xe) (ht : TrT X W e mt) (hb : TrB X W pin sts m) : TrS X W pin (.While e sts [] pos) (mWhile mt m) := by
  refine ⟨fun C H σ ρ φ D DD k q p => (ps_while hp (pt_w e) (pb_w sts)).to ?_⟩
  obtain ⟨Iv, ⟨n0, h0⟩, turn⟩ := q
  refine ⟨fun n σ' H' => ∃ C' ρ' φ', OkX X C' H' σ' ρ' φ' ∧ Iv n ρ' ∧ Step C H (Sof φ) C' H' (Sof φ') ∧ Agree pin σ σ', ⟨n0, C, ρ, φ, k, h0, .refl, .refl⟩, ?_⟩
  rintro n σ1 H1 ⟨C1, ρ1, φ1, k1, i1, s1, a1⟩
  have p1 := p.step s1 k1.sepS a1
  refine ht.run C1 H1 σ1 ρ1 φ1 _ _ _ k1 (turn n ρ1 i1) (fun bb ρ2 C2 H2 φ2 q2 k2 s2 => ?_) p1.x
  cases bb with
  | false => exact iteF (p1.nx ρ2 σ1 C2 H2 φ2 q2 k2 s2 .refl)
  | true =>
    refine iteT ⟨fun σ' H' => ∃ m, m < n ∧ ∃ C' ρ' φ', OkX X C' H' σ' ρ' φ' ∧ Iv m ρ' ∧ Step C H (Sof φ) C' H' (Sof φ') ∧ Agree pin σ σ', fun σ' H' ⟨m, hm, h⟩ => ⟨m, hm, h⟩, ?_⟩
    have p2 := p1.step s2 k2.sepS .refl
    have s12 := s1.trans s2 k1.sepS
    refine hb.run C2 H2 σ1 ρ2 φ2 _ _ k2 q2 ⟨fun ρ3 σ3 C3 H3 φ3 ⟨m, hm, q3⟩ k3 s3 a3 => ⟨m, hm, C3, ρ3, φ3, k3, q3, s12.trans s3 k2.sepS, a1.trans a3⟩, p2.rt, p2.nx,
      fun ρ3 σ3 C3 H3 φ3 ⟨m, hm, q3⟩ k3 s3 a3 => ⟨m, hm, C3, ρ3, φ3, k3, q3, s12.trans s3 k2.sepS, a1.trans a3⟩, p2.xc⟩
/-- what an iterator gives, over the core C0 -/
structure Yields (X : Cx) (C0 : Hp) (J : It) (xs : List PyData) : Prop where
  stop : ∀ H, Same C0 H → J.stop xs.length H
  go : ∀ i H, Same C0 H → i < xs.length → J.go i H
  yld : ∀ i C H v H', Same C0 C → Same C H → i < xs.length → J.yld i H v H' → ∃ C' x, xs[i]? = some x ∧ New C H C' H' [] ∧ Rp X.K X.w C' v x
abbrev MI := Envr → (List PyData → Envr → Prop) → RX → Prop
structure TrI (X : Cx) (W : WX) (tg iter : Expr) (m : MI) : Prop where
  run : ∀ (C H : Hp) (σ : Slots) (ρ : Envr) (φ : Ph) (Q : List PyData → Envr → Prop) (R : RX) (RR : It → Hp → Prop), OkX X C H σ ρ φ → m ρ Q R →
    (∀ xs ρ2 C2 H2 φ2 J, Q xs ρ2 → OkX X C2 H2 σ ρ2 φ2 → Step C H (Sof φ) C2 H2 (Sof φ2) → Yields X C2 J xs → RR J H2) → XPost X W R C H σ φ → ∃ wi, PI X tg iter wi ∧ wi σ H RR
def WI (X : Cx) (tg iter : Expr) : TI := fun σ H R => ∃ wi, PI X tg iter wi ∧ wi σ H R
theorem pi_w (tg iter : Expr) : PI X tg iter (WI X tg iter) := ⟨fun pins s σ H R I ⟨_, h1, h2⟩ => h1.run pins s σ H R I h2⟩
def mFor (mi : MI) (g : MG) (b : MS) : MS := fun ρ D => mi ρ (fun xs ρ1 => ∃ Inv : Nat → Envr → Prop, Inv 0 ρ1 ∧
  (∀ k x ρ2, xs[k]? = some x → Inv k ρ2 → g x ρ2 fun ρ3 => b ρ3 { D with nx := Inv (k + 1), ct := Inv (k + 1), bk := D.nx }) ∧ ∀ ρ2, Inv xs.length ρ2 → D.nx ρ2) D.xc
theorem ts_for {tg iter : Expr} {mi : MI} {g : MG} (hp : PassesOwn (model X.prog X.w) X.A X.env X.xe) (hc : X.calm = true) (hi : TrI X W tg iter mi) (hg : TrG X pin tg g) (hb : TrB X W pin sts m)
    (hs : ∀ x, foldedSetIterable iter X.env x = pure x := by intro _; rfl) : TrS X W pin (.For tg iter sts [] pos) (mFor mi g m) := by
  refine ⟨fun C H σ ρ φ D DD k q p => (ps_for hp hc (pi_w tg iter) (pg_w tg) (pb_w sts) hs).to ?_⟩
  refine hi.run C H σ ρ φ _ _ _ k q (fun xs ρ1 C1 H1 φ1 J q1 k1 s1 Y => ?_) p.x
  obtain ⟨Iv, h0, turn, fin⟩ := q1
  have p1 := p.step s1 k1.sepS .refl
  refine ⟨fun i m σ' H' => m = xs.length - i ∧ i ≤ xs.length ∧ ∃ C' ρ' φ', OkX X C' H' σ' ρ' φ' ∧ Iv i ρ' ∧ Step C1 H1 (Sof φ1) C' H' (Sof φ') ∧ Agree pin σ σ', ⟨xs.length, rfl, Nat.zero_le _, C1, ρ1, φ1, k1, h0, .refl, .refl⟩, ?_⟩
  rintro i m σ2 H2 ⟨hm, hi', C2, ρ2, φ2, k2, i2, s2, a2⟩
  have e12 : Same C1 C2 := s2.core
  by_cases hlt : i < xs.length
  · refine .inr ⟨Y.go i H2 (e12.trans k2.ex) hlt, fun σ' H' => (i + 1 ≤ xs.length ∧ ∃ C' ρ' φ', OkX X C' H' σ' ρ' φ' ∧ Iv (i + 1) ρ' ∧ Step C1 H1 (Sof φ1) C' H' (Sof φ') ∧ Agree pin σ σ'), fun σ' H' ⟨h1, h2⟩ => ⟨xs.length - (i + 1), by omega, rfl, h1, h2⟩, fun v H' y => ?_⟩
    obtain ⟨C3, x, hx, n3, r3⟩ := Y.yld i C2 H2 v H' e12 k2.ex hlt y
    have k3 := k2.new n3
    have s3 : Step C1 H1 (Sof φ1) C3 H' (Sof φ2) := s2.trans (Step.none n3) k2.sepS
    refine hg.run C3 H' σ2 ρ2 φ2 v x _ _ k3 r3 (turn i x ρ2 hx i2) fun ρ4 σ4 φ4 q4 k4 s4 a4 => ?_
    have s14 := s3.trans s4 k3.sepS
    have p4 := p1.step s14 k4.sepS (a2.trans a4)
    refine hb.run C3 H' σ4 ρ4 φ4 _ _ k4 q4 ⟨fun ρ5 σ5 C5 H5 φ5 q5 k5 s5 a5 => ⟨hlt, C5, ρ5, φ5, k5, q5, s14.trans s5 k4.sepS, (a2.trans a4).trans a5⟩, p4.rt, p4.nx,
      fun ρ5 σ5 C5 H5 φ5 q5 k5 s5 a5 => ⟨hlt, C5, ρ5, φ5, k5, q5, s14.trans s5 k4.sepS, (a2.trans a4).trans a5⟩, p4.xc⟩
  · have e : i = xs.length := by omega
    subst e
    exact .inl ⟨Y.stop H2 (e12.trans k2.ex), p1.nx ρ2 σ2 C2 H2 φ2 (fin ρ2 i2) k2 s2 a2⟩
/-- a result as data: what it holds is frozen where it stands -/
def kFz (rv : RV) (ρ : Envr) (k : PyData → Envr → Prop) : Prop := match rv with
  | .d x => k x ρ
  | .new (.b e) => k e.frz ρ
  | .pl j => (match ρ[j]? with
    | some (some (.b e)) => k e.frz (ρ.set j (some (.dat e.frz)))
    | _ => False)
  | _ => False
theorem kFz.run {C H σ ρ φ v F rv} {k : PyData → Envr → Prop} (ok : OkX X C H σ ρ φ) (hF : ∀ a ∈ F, C a = none ∧ ¬ Sof φ a) (r : RvOk X C H σ ρ v F rv) (h : kFz rv ρ k) :
    ∃ x ρ2 C2 φ2, k x ρ2 ∧ OkX X C2 H σ ρ2 φ2 ∧ Step C H (fun a => Sof φ a ∨ a ∈ F) C2 H (Sof φ2) ∧ Rp X.K X.w C2 v x := by
  cases rv with
  | d x =>
    obtain ⟨r, rfl⟩ := r
    exact ⟨_, ρ, C, φ, h, ok, Step.less fun _ z => .inl z, r⟩
  | new ev =>
    cases ev with
    | b e =>
      have r : Own X.K X.w X.mg C H v (.b e) F := r
      cases r with
      | b o =>
        refine ⟨e.frz, ρ, ov C H F, φ, h, ⟨ov_heap ok.ex, fun i ev q => ?_, ok.off, ok.dis, fun i a q => ?_, ok.len⟩, ⟨ov_core fun a z => (hF a z).1, fun a o q _ => q, fun a q c n => ⟨?_, fun z => n (.inl z)⟩⟩, o.frz fun a z => (hF a z).1⟩
        · obtain ⟨u, e1, o1⟩ := ok.own i ev q
          exact ⟨u, e1, o1.up (ov_core fun a z => (hF a z).1)⟩
        · rw [ov_off fun z => (hF a z).2 ⟨i, q⟩]; exact ok.sep i a q
        · rw [ov_off fun z => n (.inr z)]; exact c
    | obj c es => exact h.elim
    | opq _ => exact h.elim
  | pl j =>
    obtain ⟨r, rfl⟩ := r
    change (match ρ[j]? with
      | some (some (.b e)) => k e.frz (ρ.set j (some (.dat e.frz)))
      | _ => False) at h
    split at h
    · rename_i e he
      obtain ⟨k2, s2, u, e1, rr⟩ := ok.frz he
      rw [r] at e1; cases e1
      exact ⟨_, _, _, _, h, k2, ⟨s2.core, fun a o q n => s2.keep a o q fun z => n (.inl z), fun a q c n => s2.off a q c fun z => n (.inl z)⟩, rr⟩
    · exact h.elim
  | fld i f => exact h.elim
def seqD : PyData → Option (List PyData)
  | .list xs => some xs
  | .tuple xs => some xs
  | _ => none
def miSeq (m : ME) : MI := fun ρ Q R => m ρ (fun rv ρ' => kFz rv ρ' fun x ρ2 => match x with
  | .list xs => Q xs ρ2
  | _ => False) R
def miTup (m : ME) : MI := fun ρ Q R => m ρ (fun rv ρ' => match rv with
  | .d (.tuple xs) => Q xs ρ'
  | _ => False) R
theorem yields_list {C0 : Hp} {a : Addr} {vs : List V} {xs : List PyData} (h : SqL X.K C0 a vs) (r : RpL X.K X.w C0 vs xs) : Yields X C0 (Itl X.K a) xs where
  stop := fun H e => ⟨vs, e.seq h, by rw [r.length]; exact Nat.le_refl _⟩
  go := fun i H e hi => ⟨vs, vs[i]'(by rw [r.length]; exact hi), e.seq h, List.getElem?_eq_getElem _⟩
  yld := fun i C H v H' e e2 hi y => by
    obtain ⟨rfl, y⟩ := y
    have hv := y vs ((e.trans e2).seq h)
    obtain ⟨x, hx, rx⟩ := r.getV hv
    exact ⟨C, x, hx, New.refl e2, rx.up e⟩
theorem yields_tup {C0 : Hp} {a : Addr} {vs : List V} {xs : List PyData} (h : SqT X.K C0 a vs) (r : RpL X.K X.w C0 vs xs) : Yields X C0 (Itt X.K a) xs where
  stop := fun H e => ⟨vs, sqT_mono e h, by rw [r.length]; exact Nat.le_refl _⟩
  go := fun i H e hi => ⟨vs, vs[i]'(by rw [r.length]; exact hi), sqT_mono e h, List.getElem?_eq_getElem _⟩
  yld := fun i C H v H' e e2 hi y => by
    obtain ⟨rfl, y⟩ := y
    have hv := y vs (sqT_mono (e.trans e2) h)
    obtain ⟨x, hx, rx⟩ := r.getV hv
    exact ⟨C, x, hx, New.refl e2, rx.up e⟩
theorem ti_seq {tg iter : Expr} (h : TrE X W iter me) : TrI X W tg iter (miSeq me) := by
  refine ⟨fun C H σ ρ φ Q R RR k q p x => ⟨_, pi_list (pe_w iter), ?_⟩⟩
  refine h.run C H σ ρ φ _ _ _ k q (fun rv ρ2 v C2 H2 φ2 F q2 k2 s2 r2 f2 => ?_) x
  obtain ⟨y, ρ3, C3, φ3, q3, k3, s3, r3⟩ := kFz.run k2 f2 r2 q2
  have s23 := s2.trans s3 fun a z => z.elim (k2.sepS a) fun z => (f2 a z).1
  cases r3 with
  | lst h1 h2 => exact ⟨_, rfl, ⟨_, k3.ex.seq h1⟩, p _ ρ3 C3 H2 φ3 _ q3 k3 s23 (yields_list h1 h2)⟩
  | _ => exact q3.elim
theorem ti_tup {tg iter : Expr} (h : TrE X W iter me) : TrI X W tg iter (miTup me) := by
  refine ⟨fun C H σ ρ φ Q R RR k q p x => ⟨_, pi_tup (pe_w iter), ?_⟩⟩
  refine h.run C H σ ρ φ _ _ _ k q (fun rv ρ2 v C2 H2 φ2 F q2 k2 s2 r2 f2 => ?_) x
  cases rv with
  | d y =>
    obtain ⟨r3, rfl⟩ := r2
    cases r3 with
    | tup h1 h2 => exact ⟨_, rfl, ⟨_, sqT_mono k2.ex h1⟩, p _ ρ2 C2 H2 φ2 _ q2 k2 (s2.imp fun _ z => .inl z) (yields_tup h1 h2)⟩
    | _ => exact q2.elim
  | _ => exact q2.elim
end
end Ac
set_option Elab.async false
set_option linter.all false
set_option maxRecDepth 100000
set_option maxHeartbeats 2000000
namespace Ac
open PySem PySem.Spec PyProof.Rows L2
def kRt (rv : RV) (ρ : Envr) (k : EV → Prop) : Prop := match rv with
  | .d x => k (.dat x)
  | .new ev => k ev
  | .pl j => (match ρ[j]? with
    | some (some ev) => k ev
    | _ => False)
  | .fld _ _ => False
def fnP (m : MS) (n : Nat) (ds : List PyData) (O : Out → Prop) : Prop := m (ds.map (fun x => some (.dat x)) ++ List.replicate (n - ds.length) none)
  ⟨fun _ => O (.ok (.dat .none)), fun rv ρ => kRt rv ρ fun ev => O (.ok ev), fun _ => False, fun _ => False, fun c _ => O (.exc c)⟩
theorem start_get {N : List Str} {vs : List V} {i : Nat} {v : V} (h : vs[i]? = some v) : (L2.start N vs)[i]? = some (some v) := by
  have hi : i < vs.length := (List.getElem?_eq_some_iff.mp h).1
  unfold L2.start
  rw [List.getElem?_append_left (by rw [List.length_map]; exact hi), List.getElem?_map, h] <;> rfl
theorem start_len {N : List Str} {vs : List V} (h : vs.length ≤ N.length) : (L2.start N vs).length = N.length := by
  unfold L2.start
  rw [List.length_append, List.length_map, List.length_replicate]; omega
theorem ok_start {K : PySem.W.Frag} {w : World} {mg : Str → Option Value} {C H : Hp} {vs : List V} {ds : List PyData} {N : List Str} (e : Same C H) (r : RpL K w C vs ds) (hl : vs.length ≤ N.length) :
    Ok K w mg C H (L2.start N vs) (ds.map (fun x => some (EV.dat x)) ++ List.replicate (N.length - ds.length) none) (fun _ => []) where
  ex := e
  own := fun i ev h => by
    by_cases hi : i < ds.length
    · rw [List.getElem?_append_left (by rw [List.length_map]; exact hi), List.getElem?_map, List.getElem?_eq_getElem hi] at h
      cases h
      obtain ⟨v, hv, rv⟩ := r.get (List.getElem?_eq_getElem hi)
      exact ⟨v, start_get hv, .b (.dat rv)⟩
    · rw [List.getElem?_append_right (by rw [List.length_map]; omega), List.getElem?_replicate] at h
      split at h <;> cases h
  off := fun _ _ => rfl
  dis := fun _ _ _ h _ => nomatch h
  sep := fun _ _ h => nomatch h
  len := by rw [start_len hl, List.length_append, List.length_map, List.length_replicate]; have := r.length; omega
theorem kRt.run {X : Cx} {C H σ ρ φ v F rv} {k : EV → Prop} (ok : OkX X C H σ ρ φ) (hF : ∀ a ∈ F, C a = none) (r : RvOk X C H σ ρ v F rv) (h : kRt rv ρ k) : ∃ ev G, k ev ∧ Own X.K X.w X.mg C H v ev G ∧ (∀ a ∈ G, C a = none) ∧ ∀ a ∈ G, Sof φ a ∨ a ∈ F := by
  cases rv with
  | d x => obtain ⟨r, rfl⟩ := r; exact ⟨_, [], h, .b (.dat r), (fun _ z => nomatch z), fun _ z => nomatch z⟩
  | new ev => exact ⟨ev, F, h, r, hF, fun a z => .inr z⟩
  | pl j =>
    obtain ⟨r, rfl⟩ := r
    change (match ρ[j]? with
      | some (some ev) => k ev
      | _ => False) at h
    split at h
    · rename_i ev he
      obtain ⟨u, e1, o⟩ := ok.own j ev he
      rw [r] at e1; cases e1
      exact ⟨ev, φ j, h, o, ok.sep j, fun a z => .inl ⟨j, z⟩⟩
    · exact h.elim
  | fld i f => exact h.elim
/-- nothing was owned at the start -/
theorem New.ofStep {C H C2 H2 : Hp} {S2 : Addr → Prop} {G : List Addr} (s : Step C H (fun a => Sof (fun _ => []) a) C2 H2 S2) (e : Same C2 H2) (e0 : Same C H) (hG : ∀ a ∈ G, C2 a = none ∧ S2 a) : New C H C2 H2 G where
  core := s.core
  heap := fun a o h => s.keep a o h fun ⟨_, z⟩ => nomatch z
  ex := e
  fresh := fun a h c => (s.off a h c fun ⟨_, z⟩ => nomatch z).1
  own := fun a h => ⟨by
    cases q : H a with
    | none => rfl
    | some o =>
      have c : C a = none := by
        cases qc : C a with
        | none => rfl
        | some u => have := s.core a u qc; rw [(hG a h).1] at this; cases this
      exact absurd (hG a h).2 (s.off a (by rw [q]; exact fun z => nomatch z) c fun ⟨_, z⟩ => nomatch z).2, (hG a h).1⟩
section
variable {P : Program} {w : World} {K : PySem.W.Frag} {mg : Str → Option Value} {base : Heap}
theorem fk_mk {x : Str} {params : Arguments} {body : List Stmt} {scope : Scope} {f : Addr} {fd : FuncData} {N ps : List Str} {k : Nat} {g : GR} {m : MS} (F : FunD K x x params body scope [] [] f fd) (S : FnScope N ps scope)
    (ar : ∀ ds out, g ds out → ds.length = ps.length)
    (tr : ∀ (cdv : Value) (A : Around) (outer : List Env) (s : Shared) (H : Hp) (E : XK), Room k (A.deeper (envOfC x scope s.heap.objs.size f cdv)) →
      TrB (cxOf (L2.CX P w) P w K mg base N x scope f cdv A outer s H E) (fun cls d _ H => E cls d H) [] body m)
    (run : ∀ ds out, g ds out → fnP m N.length ds (fun o => o = out)) : FnOk P w K mg base (L2.CX P w) (k + 1) f fd ps (spP K w mg g) := by
  have hpl : ps.length ≤ N.length := by have := congrArg List.length S.pre; rw [List.length_take] at this; omega
  refine F.ok S (fun vs H Q E h => ?_) fun cdv A outer s H vs Q E hr h => ⟨_, pb_w body, ?_⟩
  · obtain ⟨C, ds, out, e, r, hg, _⟩ := h
    rw [r.length]; exact ar ds out hg
  · obtain ⟨C, ds, out, e, r, hg, q⟩ := h
    have hl : vs.length ≤ N.length := by rw [r.length, ar ds out hg]; exact hpl
    refine (tr cdv A outer s H E hr).run C H _ _ (fun _ => []) _ _ (ok_start e r hl) (run ds out hg) ⟨?_, ?_, fun _ _ _ _ _ h => h.elim, fun _ _ _ _ _ h => h.elim, ?_⟩
    · intro ρ2 σ2 C2 H2 φ2 q2 k2 s2 _
      have q2 : Out.ok (.dat .none) = out := q2
      subst q2
      exact q .non C2 H2 [] (New.ofStep s2 k2.ex e fun _ z => nomatch z) (.b (.dat .non))
    · intro rv ρ2 σ2 v C2 H2 φ2 F q2 k2 s2 r2 f2 _
      obtain ⟨ev, G, h1, o, h2, h3⟩ := kRt.run (k := fun ev => Out.ok ev = out) k2 (fun a z => (f2 a z).1) r2 q2
      subst h1
      exact q v C2 H2 G (New.ofStep s2 k2.ex e fun a z => ⟨h2 a z, h3 a z⟩) o
    · intro c ρ2 σ2 a C2 H2 φ2 q2 k2 s2 _ hmg
      have q2 : Out.exc c = out := q2
      subst q2
      exact q a C2 H2 (New.ofStep s2 k2.ex e fun _ z => nomatch z) hmg
theorem cl_mk {x : Str} {params : Arguments} {body : List Stmt} {scope : Scope} {f : Addr} {fd : FuncData} {N ps : List Str} {k : Nat} {g : GR} {m : MS} (F : FunD K x x params body scope [] [] f fd) (hm : mg x = some (.ref f)) (hb : Binds K fd ps []) (S : FnScope N ps scope)
    (ar : ∀ ds out, g ds out → ds.length = ps.length)
    (tr : ∀ (cdv : Value) (A : Around) (outer : List Env) (s : Shared) (H : Hp) (E : XK), Room k (A.deeper (envOfC x scope s.heap.objs.size f cdv)) →
      TrB (cxOf (L2.CX P w) P w K mg base N x scope f cdv A outer s H E) (fun cls d _ H => E cls d H) [] body m)
    (run : ∀ ds out, g ds out → fnP m N.length ds (fun o => o = out)) : Cl P w K mg base (k + 1) x g := by
  exact ⟨f, fd, ps, hm, F.kp, hb, fk_mk F S ar tr run⟩
theorem tkOf {N : List Str} {qual : Str} {scope : Scope} {f : Addr} {cd : Value} {A : Around} {outer : List Env} {s : Shared} {H : Hp} {E : XK} : Takes (cxOf (L2.CX P w) P w K mg base N qual scope f cd A outer s H E) (fun cls d _ H => E cls d H) := takes_of rfl rfl rfl rfl
theorem poOf {CX : CXT} {N : List Str} {qual : Str} {scope : Scope} {f : Addr} {cd : Value} {A : Around} {outer : List Env} {s : Shared} {H : Hp} {E : XK} :
    PassesOwn (model (cxOf CX P w K mg base N qual scope f cd A outer s H E).prog (cxOf CX P w K mg base N qual scope f cd A outer s H E).w) (cxOf CX P w K mg base N qual scope f cd A outer s H E).A (cxOf CX P w K mg base N qual scope f cd A outer s H E).env (cxOf CX P w K mg base N qual scope f cd A outer s H E).xe := passes_of (X := cxOf CX P w K mg base N qual scope f cd A outer s H E) rfl
theorem huOf {k : Nat} {A : Around} (hr : Room k A) : A.units + 65 < cLine := by have := hr.un; omega
/-- the same, its name bound later or by another name -/
theorem cl_as {x y : Str} {k : Nat} {g : GR} (h : Cl P w K mg base k x g) (e : mg y = mg x) : Cl P w K mg base k y g := by
  obtain ⟨f, fd, ps, h1, h2, h3, h4⟩ := h.ex
  exact ⟨f, fd, ps, e.trans h1, h2, h3, h4⟩
end
section
variable {X : Cx} {W : WX} {pin : List Nat} {pos : Pos} {e a b : Expr} {es : List Expr} {ms : List MN} {ma mb : MN}
def mRaise (c : Str) : MS := fun ρ D => D.xc c ρ
/-- an own exception class, over ValueError -/
structure XcOk (K : PySem.W.Frag) (mg : Str → Option Value) (c : Str) : Prop where
  ex : ∃ C, mg c = some (.ref C) ∧ PySem.W.excIn K C He.veBase "ValueError.__new__" = true ∧ PySem.W.keepIn K (.ref C) = true ∧ PySem.W.subIn K (.ref C) (.type "BaseException") = some true ∧ PySem.W.typeIn K (.ref C) = some (.type "type")
theorem ts_raise {c z : Str} {p p2 cp : Pos} {j : Nat} (hc : X.calm = true) (tk : Takes X W) (h : XcOk X.K X.mg c) (hg : Gl X c) (hdb : (c == ("__debug__" : Str)) = false := by decide) :
    TrS X W pin (.Raise (some (.Call (.Name c p) [.Constant (.str z) j p2] [] cp)) none pos) (mRaise c) := by
  obtain ⟨C, h1, h2, h3, h4, h5⟩ := h.ex
  refine ⟨fun C' H σ ρ φ D DD k q pp => (ps_raise hc tk (pmk_own PySem.F.excBase_ValueError h2 h1 h3 (raises_own h4 h5) hg hdb)).to ?_⟩
  exact pp.xc c ρ σ C C' H φ q k .refl .refl h1
def fLen : FL := fun es Q => match es with
  | [.dat (.str z)] => z.length ≤ sizeLine ∧ Q (.d (.int z.length))
  | [e] => kSeq e fun xs => Q (.d (.int xs.length))
  | _ => False
abbrev rLen2 (K : PySem.W.Frag) : List V → Hp → VK → Prop := fun xs H Q => (∃ x n, xs = [x] ∧ LenV K x H n ∧ Q (.int n) H) ∨ (∃ p ys, xs = [.ref p] ∧ (SqL K H p ys ∨ SqT K H p ys) ∧ Q (.int ys.length) H)
theorem CallR.or {f : Value} {r r' : List V → Hp → VK → Prop} (h : CallR X f r) (h' : CallR X f r') : CallR X f (fun xs H Q => r xs H Q ∨ r' xs H Q) := by
  intro pins s σ H xs us Q I r q
  rcases q with q | q
  · exact h pins s σ H xs us Q I r q
  · exact h' pins s σ H xs us Q I r q
theorem Views.one {C H : Hp} {vs : List V} {e : EB} (h : Views X C H vs [e]) : ∃ v, vs = [v] ∧ View X C H v e := by
  cases h with
  | cons h t => cases t; exact ⟨_, rfl, h⟩
theorem Views.two {C H : Hp} {vs : List V} {e e' : EB} (h : Views X C H vs [e, e']) : ∃ v v', vs = [v, v'] ∧ View X C H v e ∧ View X C H v' e' := by
  cases h with
  | cons h t =>
    obtain ⟨v', rfl, h'⟩ := t.one
    exact ⟨_, _, rfl, h, h'⟩
theorem pu_len : PuL X (rLen2 X.K) fLen := fun C H xs es Q QQ e v q p => by
  unfold fLen at q
  split at q
  · rename_i z
    obtain ⟨v, rfl, vw⟩ := v.one
    have hv := vw.str
    subst hv
    exact .inl ⟨_, z.length, rfl, ⟨q.1, rfl⟩, p.val e q.2 (.int _)⟩
  · obtain ⟨v, rfl, vw⟩ := v.one
    obtain ⟨xs, l, q⟩ := q.of
    obtain ⟨a, vs, rfl, h, r⟩ := vw.seq e l
    refine .inr ⟨a, vs, rfl, h, ?_⟩
    rw [r.length]
    exact p.val e q (.int _)
  · exact q.elim
theorem tn_len {p : Pos} (hg : Gl X "len") (hm : X.mg "len" = none) (ha : TrAN X W [e] (mA ms)) (he : starEach [e] X.env = (false, eval e X.env) :: starEach [] X.env := by rfl) : TrN X W (.Call (.Name "len" p) [e] [] pos) (mL fLen ms) :=
  tn_L pu_len ha fun _ h => pe_callB (CallR.or call_len call_len_seq) hg hm PySem.boot_len h (by decide) (by decide) he
def fAbs : FL := fun es Q => match es with
  | [.dat (.int i)] => Q (.d (.int (if i < 0 then -i else i)))
  | _ => False
theorem pu_abs : PuL X (fun xs H Q => ∃ i, xs = [.int i] ∧ Q (.int (if i < 0 then -i else i)) H) fAbs := fun C H xs es Q QQ e v q p => by
  unfold fAbs at q
  split at q
  · obtain ⟨v, rfl, vw⟩ := v.one
    exact ⟨_, by rw [vw.int], p.val e q (.int _)⟩
  · exact q.elim
theorem tn_abs {p : Pos} (hg : Gl X "abs") (hm : X.mg "abs" = none) (ha : TrAN X W [e] (mA ms)) (he : starEach [e] X.env = (false, eval e X.env) :: starEach [] X.env := by rfl) : TrN X W (.Call (.Name "abs" p) [e] [] pos) (mL fAbs ms) :=
  tn_L pu_abs ha fun _ h => pe_callB call_abs hg hm (by decide +kernel) h (by decide) (by decide) he
/-- int(truth), int(number) -/
def fInt : FL := fun es Q => match es with
  | [.dat (.int i)] => Q (.d (.int i))
  | [.dat (.bool b)] => Q (.d (.int (if b then 1 else 0)))
  | _ => False
theorem pu_int : PuL X (fun xs H Q => (∃ i, xs = [.int i] ∧ Q (.int i) H) ∨ ∃ k, xs = [.bl k] ∧ Q (.int (if k then 1 else 0)) H) fInt := fun C H xs es Q QQ e v q p => by
  unfold fInt at q
  split at q
  · obtain ⟨v, rfl, vw⟩ := v.one
    exact .inl ⟨_, by rw [vw.int], p.val e q (.int _)⟩
  · obtain ⟨v, rfl, vw⟩ := v.one
    exact .inr ⟨_, by rw [vw.bl], p.val e q (.int _)⟩
  · exact q.elim
theorem tn_int1 {p : Pos} (hg : Gl X "int") (hm : X.mg "int" = none) (ha : TrAN X W [e] (mA ms)) (he : starEach [e] X.env = (false, eval e X.env) :: starEach [] X.env := by rfl) : TrN X W (.Call (.Name "int" p) [e] [] pos) (mL fInt ms) :=
  tn_L pu_int ha fun _ h => pe_callTy call_int1 hg hm (by decide +kernel) h (by decide) (by decide) he
/-- int(text) -/
def fIntS : FL := fun es Q => match es with
  | [.dat (.str z)] => ∃ n, PySem.intText? z = some n ∧ z.length ≤ 640 ∧ Q (.d (.int n))
  | _ => False
def fStrI : FL := fun es Q => match es with
  | [.dat (.int i)] => i.natAbs.log2 < 1920 ∧ Q (.d (.str (toString i : String)))
  | _ => False
theorem pu_strI : PuL X (fun xs H Q => ∃ i, xs = [.int i] ∧ i.natAbs.log2 < 1920 ∧ Q (.str (toString i : String)) H) fStrI := fun C H xs es Q QQ e v q p => by
  unfold fStrI at q
  split at q
  · obtain ⟨v, rfl, vw⟩ := v.one
    exact ⟨_, by rw [vw.int], q.1, p.val e q.2 (.str _)⟩
  · exact q.elim
theorem tn_strI {p : Pos} (hg : Gl X "str") (hm : X.mg "str" = none) (ha : TrAN X W [e] (mA ms)) (he : starEach [e] X.env = (false, eval e X.env) :: starEach [] X.env := by rfl) : TrN X W (.Call (.Name "str" p) [e] [] pos) (mL fStrI ms) :=
  tn_L pu_strI ha fun _ h => pe_callTy call_str_int hg hm (by decide +kernel) h (by decide) (by decide) he
/-- list(a list or tuple) -/
def fList : FL := fun es Q => match es with
  | [e] => kSeq e fun xs => Q (.new (.lst xs))
  | _ => False
theorem pu_list : PuL X (fun xs H Q => ∃ p ys, xs = [.ref p] ∧ (SqL X.K H p ys ∨ SqT X.K H p ys) ∧ ∀ l, H l = none → Q (.ref l) (upd H l (.lst ys))) fList := fun C H xs es Q QQ e v q p => by
  unfold fList at q
  split at q
  · obtain ⟨v, rfl, vw⟩ := v.one
    obtain ⟨xs, l, q⟩ := q.of
    obtain ⟨a, vs, rfl, h, r⟩ := vw.seq e l
    exact ⟨a, vs, rfl, h, fun l hl => p _ _ C _ [l] q (New.lst e hl) (.b (.lst upd_same r))⟩
  · exact q.elim
theorem tn_list {p : Pos} (hg : Gl X "list") (hm : X.mg "list" = none) (ha : TrAN X W [e] (mA ms)) (he : starEach [e] X.env = (false, eval e X.env) :: starEach [] X.env := by rfl) : TrN X W (.Call (.Name "list" p) [e] [] pos) (mL fList ms) :=
  tn_L pu_list ha fun _ h => pe_callTy call_list_of hg hm (by decide +kernel) h (by decide) (by decide) he
def fMin2 : FL := fun es Q => match es with
  | [.dat (.int i), .dat (.int j)] => Q (.d (.int (if j < i then j else i)))
  | _ => False
def fMax2 : FL := fun es Q => match es with
  | [.dat (.int i), .dat (.int j)] => Q (.d (.int (if j > i then j else i)))
  | _ => False
theorem tn_min2 {p : Pos} (hc : X.calm = true) (hg : Gl X "min") (hm : X.mg "min" = none) (ha : TrAN X W [a, b] (mA ms)) (he : starEach [a, b] X.env = (false, eval a X.env) :: starEach [b] X.env := by rfl) (hpl : (backTo pos (starEach [b] X.env)).any (·.1) = false := by rfl) : TrN X W (.Call (.Name "min" p) [a, b] [] pos) (mL fMin2 ms) :=
  tn_L (r := fun xs H Q => ∃ i j, xs = [.int i, .int j] ∧ Q (.int (if j < i then j else i)) H) (fun C H xs es Q QQ e v q p => by
    unfold fMin2 at q
    split at q
    · obtain ⟨v, v', rfl, vw, vw'⟩ := v.two
      exact ⟨_, _, by rw [vw.int, vw'.int], p.val e q (.int _)⟩
    · exact q.elim) ha fun _ h => pe_callB (call_min2 hc) hg hm (by decide +kernel) h (by decide) (by decide) he hpl
theorem tn_max2 {p : Pos} (hc : X.calm = true) (hg : Gl X "max") (hm : X.mg "max" = none) (ha : TrAN X W [a, b] (mA ms)) (he : starEach [a, b] X.env = (false, eval a X.env) :: starEach [b] X.env := by rfl) (hpl : (backTo pos (starEach [b] X.env)).any (·.1) = false := by rfl) : TrN X W (.Call (.Name "max" p) [a, b] [] pos) (mL fMax2 ms) :=
  tn_L (r := fun xs H Q => ∃ i j, xs = [.int i, .int j] ∧ Q (.int (if j > i then j else i)) H) (fun C H xs es Q QQ e v q p => by
    unfold fMax2 at q
    split at q
    · obtain ⟨v, v', rfl, vw, vw'⟩ := v.two
      exact ⟨_, _, by rw [vw.int, vw'.int], p.val e q (.int _)⟩
    · exact q.elim) ha fun _ h => pe_callB (call_max2 hc) hg hm (by decide +kernel) h (by decide) (by decide) he hpl
def rngD (lo : Int) (n : Nat) : List PyData := (List.range n).map fun i => .int (lo + (i : Nat))
def miRng1 (m : MN) : MI := fun ρ Q R => m ρ (fun r => kOpn r fun r => kLook ρ r fun e => kInt e fun j => (-(2 ^ 62) ≤ j ∧ j < 2 ^ 62) ∧ Q (rngD 0 j.toNat) ρ) (fun c => R c ρ)
def miRng2 (ma mb : MN) : MI := fun ρ Q R => ma ρ (fun ra => kOpn ra fun ra => mb ρ (fun rb => kOpn rb fun rb => kLook ρ ra fun ea => kLook ρ rb fun eb => kInt ea fun i => kInt eb fun j => (-(2 ^ 62) ≤ i ∧ i < 2 ^ 62 ∧ -(2 ^ 62) ≤ j ∧ j < 2 ^ 62) ∧ Q (rngD i (j - i).toNat) ρ) (fun c => R c ρ)) (fun c => R c ρ)
theorem yields_rng {C0 : Hp} {lo : Int} {n : Nat} : Yields X C0 (Itr lo n) (rngD lo n) where
  stop := fun H e => by show n ≤ (rngD lo n).length; unfold rngD; simp
  go := fun i H e hi => by show i < n; unfold rngD at hi; simpa using hi
  yld := fun i C H v H' e e2 hi y => by
    obtain ⟨rfl, rfl⟩ := y
    refine ⟨C, .int (lo + (i : Nat)), ?_, New.refl e2, .int _⟩
    unfold rngD at hi ⊢
    rw [List.getElem?_map, List.getElem?_range (by simpa using hi)] <;> rfl
theorem ti_rng1 {tg : Expr} {p : Pos} (hg : Gl X "range") (hm : X.mg "range" = none) (ha : TrN X W a ma) (hs : starEach [a] X.env = [(false, eval a X.env)] := by rfl) : TrI X W tg (.Call (.Name "range" p) [a] [] pos) (miRng1 ma) := by
  refine ⟨fun C H σ ρ φ Q R RR k q p x => ⟨_, pi_range1 hg hm (pa_cons (pe_w a) pa_nil hs) hs, ?_⟩⟩
  refine ha.run C H σ ρ φ _ _ _ k q (fun ra v C1 H1 F q1 n1 r1 => ?_) (XPost.pure k x)
  obtain ⟨ra', o1, q1⟩ := q1.of
  obtain ⟨C1', n1, r1⟩ := opn_ok n1 r1 o1
  obtain ⟨ea, l1, q1⟩ := q1.of
  obtain ⟨j, rfl, hb, q1⟩ := q1.of
  have k1 := k.new n1
  have v1 := r1.view (F := []) k1 (fun _ z => nomatch z) l1
  exact ⟨j, by rw [v1.int], hb.1, hb.2, p _ ρ C1' H1 φ _ q1 k1 (Step.none n1) yields_rng⟩
theorem ti_rng2 {tg : Expr} {p : Pos} (hg : Gl X "range") (hm : X.mg "range" = none) (ha : TrN X W a ma) (hb : TrN X W b mb) (hs : starEach [a, b] X.env = [(false, eval a X.env), (false, eval b X.env)] := by rfl) (hs2 : starEach [b] X.env = [(false, eval b X.env)] := by rfl) : TrI X W tg (.Call (.Name "range" p) [a, b] [] pos) (miRng2 ma mb) := by
  refine ⟨fun C H σ ρ φ Q R RR k q p x => ⟨_, pi_range2 hg hm (pa_cons (pe_w a) (pa_cons (pe_w b) pa_nil hs2) (by rw [hs, hs2])) hs hs2, ?_⟩⟩
  have x' := XPost.pure k x
  refine ha.run C H σ ρ φ _ _ _ k q (fun ra v C1 H1 F q1 n1 r1 => ?_) x'
  obtain ⟨ra', o1, q1⟩ := q1.of
  obtain ⟨C1', n1, r1⟩ := opn_ok n1 r1 o1
  refine hb.run C1' H1 σ ρ φ _ _ _ (k.new n1) q1 (fun rb u C2 H2 F2 q2 n2 r2 => ?_) (x'.new n1)
  obtain ⟨rb', o2, q2⟩ := q2.of
  obtain ⟨C2', n2, r2⟩ := opn_ok n2 r2 o2
  obtain ⟨ea, l1, q2⟩ := q2.of
  obtain ⟨eb, l2, q2⟩ := q2.of
  obtain ⟨i, e1, q3⟩ := q2.of
  obtain ⟨j, e2, hb, q4⟩ := q3.of
  subst e1 e2
  have k2 := (k.new n1).new n2
  have v1 := (r1.new n2).view (F := []) k2 (fun _ z => nomatch z) l1
  have v2 := r2.view (F := []) k2 (fun _ z => nomatch z) l2
  exact ⟨i, j, by rw [v1.int, v2.int], hb, p _ ρ C2' H2 φ _ q4 k2 (Step.none (n1.trans n2)) yields_rng⟩
end
end Ac
set_option Elab.async false
set_option linter.all false
set_option maxRecDepth 100000
set_option maxHeartbeats 2000000
namespace Ac
open PySem PySem.Spec PyProof.Rows L2
def tyD : PyData → String
  | .none => "NoneType"
  | .bool _ => "bool"
  | .int _ => "int"
  | .str _ => "str"
  | .list _ => "list"
  | .tuple _ => "tuple"
  | .dict _ => "dict"
def tyE : EB → String
  | .dat x => tyD x
  | .lst _ => "list"
  | .dct _ _ => "dict"
def isiB (t T : String) : Bool := t == T || (t == "bool" && T == "int")
theorem isi_tab : ∀ t ∈ ["NoneType", "bool", "int", "str", "list", "tuple", "dict"], ∀ T ∈ ["bool", "int", "str", "list", "tuple", "dict"], kitB t T = some (isiB t T) := by decide +kernel
theorem tyE_mem (e : EB) : tyE e ∈ ["NoneType", "bool", "int", "str", "list", "tuple", "dict"] := by
  cases e with
  | dat x => cases x <;> simp [tyE, tyD]
  | lst _ => simp [tyE]
  | dct _ _ => simp [tyE]
/-- a dict whose keys are tuples is one, too -/
inductive TyY (K : PySem.W.Frag) (H : Hp) : V → Value → Prop where
  | x {v : V} {t : Value} (h : TyX K H v t) : TyY K H v t
  | nd {a : Addr} {w : World} {xs : List (NestedKey × Addr × V)} (h : H a = some (nD w a xs)) : TyY K H (.ref a) (.type "dict")
section
variable {X : Cx} {pins : List (Addr × Obj)} {σ : Slots} {H C : Hp} {s : Shared}
theorem kit_y {x : V} {u t : Value} (I : Inv X pins σ H s) (rx : RelV x u) (ty : TyY X.K H x t) : ∃ P : Heap → Prop, PySem.W.KitX X.K u t P ∧ P s.heap ∧ u ≠ .builtin "__main__.__loader__#opaque" := by
  cases ty with
  | x h => exact kit_of I rx h
  | @nd a w xs h =>
    cases (show u = Value.ref a from rx)
    have q := I.hok a _ h
    obtain ⟨ys, o, es, ep, _, h1, h2, _⟩ := q.1
    exact ⟨_, PySem.W.kitx_dict, ⟨o, h1, h2.1⟩, fun z => nomatch z⟩
def rIsiY (K : PySem.W.Frag) : List V → Hp → VK → Prop := fun xs H Q => ∃ (x c : V) (t u : Value) (b : Bool), xs = [x, c] ∧ ClsV c u ∧ TyY K H x t ∧ PySem.W.kitOne K t u = some b ∧ Q (.bl b) H
theorem call_isiY : CallR X (.builtin "isinstance") (rIsiY X.K) := by
  intro pins s σ H xs us Q I r h
  obtain ⟨x, c, t, u, b, rfl, k, ty, e, q⟩ := h
  obtain ⟨u1, u2, rfl, r1, r2⟩ := vals2 r
  have e2 := k.eq r2
  subst e2
  obtain ⟨P, Z, p, hx⟩ := kit_y I r1 ty
  exact PySem.W.kia_one Z I.kIn p e hx fun tk => ⟨.bl b, H, I.tok tk, rfl, q⟩
theorem SqL.ty {K : PySem.W.Frag} {a : Addr} {xs : List V} (h : SqL K H a xs) : TyX K H (.ref a) (.type "list") := by
  rcases h with (h | ⟨o, h⟩) | ⟨o, its, n, h, c, _⟩
  · exact .base (.lst h)
  · exact .base (.frz h)
  · exact .kList h c
theorem SqT.ty {K : PySem.W.Frag} {a : Addr} {xs : List V} (h : SqT K H a xs) : TyX K H (.ref a) (.type "tuple") := by
  rcases h with (h | ⟨o, h⟩) | ⟨o, its, n, h, c, _⟩
  · exact .base (.tup h)
  · exact .fTuple h
  · exact .kTuple h c
theorem View.ty {v : V} {e : EB} (ex : Same C H) (h : View X C H v e) : TyY X.K H v (.type (tyE e)) := by
  obtain ⟨G, o, _⟩ := h
  cases o with
  | dat h =>
    cases h with
    | non => exact .x (.base .non)
    | bl b => exact .x (.base (.bl b))
    | int i => exact .x (.base (.int i))
    | str z => exact .x (.base (.str z))
    | lst hs _ => exact .x (SqL.ty (ex.seq hs))
    | tup hs _ => exact .x (SqT.ty (sqT_mono ex hs))
    | dct hs _ =>
      rcases hs.mono ex with ⟨kvs, q, _⟩ | ⟨xs, q, _⟩
      · exact .x (.base (.dK q))
      · exact .nd q
  | lst h _ => exact .x (.base (.lst h))
  | @dct a t ps kvs F h _ _ =>
    cases t with
    | false => obtain ⟨kvs, q, _⟩ := h; exact .x (.base (.dK q))
    | true => obtain ⟨xs, q, _⟩ := h; exact .nd q
end
section
variable {X : Cx} {W : WX} {pin : List Nat} {pos : Pos} {e a b : Expr} {ma mb : MN} {ms : List MN}
def fIsi (T : String) : F1 := fun x Q => Q (.d (.bool (isiB (tyE x) T)))
/-- isinstance(x, T), T a built-in type -/
theorem tn_isi (T : String) {p p2 : Pos} {c : Str} (hg : Gl X "isinstance") (hm : X.mg "isinstance" = none) (hgT : Gl X c) (hmT : X.mg c = none) (ha : TrN X W e ma)
    (hv : bootBuiltins c = some (.type T) := by decide +kernel) (hT : T ∈ ["bool", "int", "str", "list", "tuple", "dict"] := by decide) (hn : c ≠ "__name__" := by decide) (hd : (c == ("__debug__" : Str)) = false := by decide)
    (hs : starEach [e, .Name c p2] X.env = (false, eval e X.env) :: starEach [.Name c p2] X.env := by rfl) (hs2 : starEach [.Name c p2] X.env = [(false, eval (.Name c p2) X.env)] := by rfl) :
    TrN X W (.Call (.Name "isinstance" p) [e, .Name c p2] [] pos) (m1 (fIsi T) ma) := by
  refine ⟨fun C H σ ρ φ Q R QQ k q pp x => (pe_callB call_isiY hg hm (by decide +kernel) (pa_cons (pe_w e) (pa_cons (pe_bltn (v := .ty T) hgT hmT hv rfl hn hd) pa_nil hs2) hs) (by decide) (by decide) hs (by rw [hs2]; rfl)).to ?_⟩
  refine ha.run C H σ ρ φ _ R _ k q (fun ra v C1 H1 F q1 n1 r1 => ?_) x
  obtain ⟨ra', o1, q1⟩ := q1.of
  obtain ⟨C1', n1, r1⟩ := opn_ok n1 r1 o1
  obtain ⟨ea, l1, q1⟩ := q1.of
  have k1 := k.new n1
  have vw := r1.view (F := []) k1 (fun _ z => nomatch z) l1
  exact ⟨v, .ty T, _, _, _, rfl, .ty T, vw.ty k1.ex, kit_ty (isi_tab _ (tyE_mem ea) _ hT), pp _ _ C1' H1 [] q1 n1 ⟨.bl _, rfl⟩⟩
end
section
variable {X : Cx} {W : WX} {pin : List Nat} {pos : Pos} {e a b : Expr} {ma mb : MN} {ms : List MN}
def kStr : RV → (Str → Prop) → Prop
  | .d (.str z), k => k z
  | _, _ => False
theorem kStr.of {rv : RV} {k : Str → Prop} (h : kStr rv k) : ∃ z, rv = .d (.str z) ∧ k z := by
  unfold kStr at h
  split at h
  · exact ⟨_, rfl, h⟩
  · exact h.elim
abbrev FS := Str → Str → QN → Prop
/-- a method of a text, of one text -/
def mM1 (f : FS) (a b : MN) : MN := fun ρ Q R => a ρ (fun ra => kStr ra fun x => b ρ (fun rb => kStr rb fun y => f x y Q) R) R
def PuS (X : Cx) (r : V → List V → Hp → VK → Prop) (f : FS) : Prop := ∀ (C H : Hp) (x y : Str) (Q : QN) (QQ : VK), Same C H → f x y Q → PuPost X Q C H QQ → r (.str x) [.str y] H QQ
theorem tn_m1 {r : V → List V → Hp → VK → Prop} {f : FS} (hf : PuS X r f) (ha : TrN X W a ma) (hb : TrN X W b mb) {o : Expr} (he : ∀ ta tb, PE X a ta → PE X b tb → PE X o (tM1 r ta tb)) : TrN X W o (mM1 f ma mb) := by
  refine ⟨fun C H σ ρ φ Q R QQ k q p x => (he _ _ (pe_w a) (pe_w b)).to ?_⟩
  refine ha.run C H σ ρ φ _ R _ k q (fun ra v C1 H1 F q1 n1 r1 => ?_) x
  obtain ⟨z, rfl, q1⟩ := q1.of
  obtain ⟨rr, rfl⟩ := r1
  cases rr
  refine ⟨⟨z, rfl⟩, ?_⟩
  refine hb.run C1 H1 σ ρ φ _ R _ (k.new n1) q1 (fun rb u C2 H2 F2 q2 n2 r2 => ?_) (x.new n1)
  obtain ⟨y, rfl, q2⟩ := q2.of
  obtain ⟨rr, rfl⟩ := r2
  cases rr
  exact hf C2 H2 z y Q QQ (n2.ex) q2 fun rv v C3 H3 F q n r => p rv v C3 H3 F q ((n1.trans n2).trans n) (r.ok σ ρ)
/-- a.partition(b) -/
def fPart : FS := fun i j Q => (j.length == 0) = false ∧ i.length ≤ sizeLine ∧ Q (.d (.tuple [.str (Txt.partition i j).1, .str (Txt.partition i j).2.1, .str (Txt.partition i j).2.2]))
/-- a.split(b) -/
def fSplit : FS := fun i j Q => (j.length == 0) = false ∧ i.length + 2 ≤ sizeLine ∧ Q (.new (.lst ((Txt.split i j).map .str)))
theorem RpL.strs {K : PySem.W.Frag} {w : World} {C : Hp} : ∀ (ys : List Str), RpL K w C (ys.map V.str) (ys.map PyData.str)
  | [] => .nil
  | y :: ys => .cons (.str y) (RpL.strs ys)
theorem tn_part {apos : Pos} (ha : TrN X W a ma) (hb : TrN X W b mb) (hs : starEach [b] X.env = [(false, eval b X.env)] := by rfl) (hbase : attributeBase a "partition" X.env (eval a X.env) = eval a X.env := by rfl) (hline : (apos.endLine == pos.line) = true := by rfl) :
    TrN X W (.Call (.Attribute a "partition" apos) [b] [] pos) (mM1 fPart ma mb) :=
  tn_m1 (fun C H x y Q QQ e q p => ⟨x, y, rfl, rfl, q.1, q.2.1, fun t ht => p _ _ _ _ [] q.2.2 (New.tup e ht) ⟨.tup (.inl (.inl upd_same)) (RpL.strs [_, _, _]), rfl⟩⟩) ha hb fun _ _ h1 h2 => pe_partition h1 h2 hs hbase hline
theorem tn_split {apos : Pos} (ha : TrN X W a ma) (hb : TrN X W b mb) (hs : starEach [b] X.env = [(false, eval b X.env)] := by rfl) (hbase : attributeBase a "split" X.env (eval a X.env) = eval a X.env := by rfl) (hline : (apos.endLine == pos.line) = true := by rfl) :
    TrN X W (.Call (.Attribute a "split" apos) [b] [] pos) (mM1 fSplit ma mb) :=
  tn_m1 (fun C H x y Q QQ e q p => ⟨x, y, rfl, rfl, q.1, q.2.1, fun t ht => p _ _ _ _ [t] q.2.2 (New.lst e ht) (.b (.lst upd_same (RpL.strs _)))⟩) ha hb fun _ _ h1 h2 => pe_split h1 h2 hs hbase hline
theorem pu_intS : PuL X (fun xs H Q => ∃ a n, xs = [.str a] ∧ PySem.intText? a = some n ∧ a.length ≤ 640 ∧ Q (.int n) H) fIntS := fun C H xs es Q QQ e v q p => by
  unfold fIntS at q
  split at q
  · obtain ⟨v, rfl, vw⟩ := v.one
    obtain ⟨n, q1, q2, q⟩ := q
    exact ⟨_, n, by rw [vw.str], q1, q2, p.val e q (.int _)⟩
  · exact q.elim
theorem tn_intS {p : Pos} (hg : Gl X "int") (hm : X.mg "int" = none) (ha : TrAN X W [e] (mA ms)) (he : starEach [e] X.env = (false, eval e X.env) :: starEach [] X.env := by rfl) : TrN X W (.Call (.Name "int" p) [e] [] pos) (mL fIntS ms) :=
  tn_L pu_intS ha fun _ h => pe_callTy call_int_str hg hm (by decide +kernel) h (by decide) (by decide) he
def sgns (x : Str) : List PyData := x.cps.toList.map fun c => .str ⟨#[c]⟩
def miStr (m : MN) : MI := fun ρ Q R => m ρ (fun r => kStr r fun x => Q (sgns x) ρ) (fun c => R c ρ)
theorem yields_str {C0 : Hp} {x : Str} : Yields X C0 (Its x) (sgns x) where
  stop := fun H e => by show x.cps.size ≤ (sgns x).length; simp [sgns]
  go := fun i H e hi => by show i < x.cps.size; simpa [sgns] using hi
  yld := fun i C H v H' e e2 hi y => by
    obtain ⟨rfl, c, hc, rfl⟩ := y
    refine ⟨C, .str ⟨#[c]⟩, ?_, New.refl e2, .str _⟩
    have e1 : x.cps.toList[i]? = some c := by rw [Array.getElem?_toList]; exact hc
    show (x.cps.toList.map _)[i]? = _
    rw [List.getElem?_map, e1]; rfl
theorem ti_str {tg : Expr} (ha : TrN X W a ma) : TrI X W tg a (miStr ma) := by
  refine ⟨fun C H σ ρ φ Q R RR k q p x => ⟨_, pi_str (pe_w a), ?_⟩⟩
  refine ha.run C H σ ρ φ _ _ _ k q (fun ra v C1 H1 F q1 n1 r1 => ?_) (XPost.pure k x)
  obtain ⟨z, rfl, q1⟩ := q1.of
  obtain ⟨rr, rfl⟩ := r1
  cases rr
  exact ⟨z, rfl, p _ ρ C1 H1 φ _ q1 (k.new n1) (Step.none n1) yields_str⟩
def mulS (x : Str) (n : Nat) : Str := ⟨(List.replicate n x.cps).foldl (· ++ ·) #[]⟩
def rMulS : R2 := fun x y H Q => ∃ i n, x = .str i ∧ y = .int n ∧ 1 < n ∧ (i.length == 0) = false ∧ i.length ≤ 1000 ∧ n ≤ 1000 ∧ Q (.str (mulS i n.toNat)) H
theorem op_mulS : OpR X (binaryOp .Mult) rMulS := by
  intro pins s σ H x y v u Q I rx ry h
  obtain ⟨i, n, rfl, rfl, h1, h2, h3, h4, q⟩ := h
  obtain ⟨t, rfl⟩ := rx
  obtain ⟨t', rfl⟩ := ry
  have z1 : ¬ n < 1 := by omega
  have z2 : (n == 1 || i.length == 0) = false := by
    rw [h2, Bool.or_false]
    exact beq_eq_false_iff_ne.mpr (by omega)
  have hp : i.length * n.toNat ≤ 1000 * 1000 := Nat.mul_le_mul h3 (by omega)
  refine PySem.P.mul_str (by
    have h5 : ¬ n < -(2 ^ 63 : Int) := by omega
    have h6 : ¬ n ≥ (2 ^ 63 : Int) := by omega
    rw [decide_eq_false h5, decide_eq_false h6]; rfl) (fun _ _ => ?_) (fun _ _ => ?_) ?_
  · have : (1000 : Int) ≤ (2 ^ 63 - 1) / n := by
      rw [Int.le_ediv_iff_mul_le (by omega)]
      omega
    omega
  · exact decide_eq_false (by
      have : sizeLine ≥ 1000 * 1000 := by decide
      omega)
  · rw [if_neg z1, if_neg (ne_true_of_eq_false z2)]
    have e1 : ((List.replicate n.toNat i.cps).foldl (· ++ ·) #[]).size = n.toNat * i.cps.size := by
      have gen : ∀ (k : Nat) (acc : Array Nat), ((List.replicate k i.cps).foldl (· ++ ·) acc).size = acc.size + k * i.cps.size := by
        intro k
        induction k with
        | zero => intro acc; simp
        | succ k ih => intro acc; rw [List.replicate_succ, List.foldl_cons, ih, Array.size_append, Nat.succ_mul]; omega
      rw [gen]; simp
    refine ⟨?_, .str _, H, I.tok _, ⟨_, rfl⟩, q⟩
    show ((List.replicate n.toNat i.cps).foldl (· ++ ·) #[]).size ≤ sizeLine
    rw [e1, Nat.mul_comm]
    exact Nat.le_trans hp (by decide)
def fMulX : F2 := fun a b Q => match a, b with
  | .dat (.str i), .dat (.int n) => 1 < n ∧ (i.length == 0) = false ∧ i.length ≤ 1000 ∧ n ≤ 1000 ∧ Q (.d (.str (mulS i n.toNat)))
  | _, _ => False
theorem tn_mulS (ha : TrN X W a ma) (hb : TrN X W b mb) : TrN X W (.BinOp a .Mult b pos) (m2 fMulX ma mb) := tn_2 (r := rMulS) (fun C H x y ex ey Q QQ e v1 v2 q p => by
  unfold fMulX at q
  split at q
  · exact ⟨_, _, v1.str, v2.int, q.1, q.2.1, q.2.2.1, q.2.2.2.1, p.val e q.2.2.2.2 (.str _)⟩
  · exact q.elim) ha hb fun _ _ => pe_op op_mulS
end
end Ac
set_option Elab.async false
set_option linter.all false
set_option maxRecDepth 100000
set_option maxHeartbeats 2000000
namespace Ac
open PySem PySem.Spec PyProof.Rows L2
section
variable {K : PySem.W.Frag} {w : World} {mg : Str → Option Value} {C H C2 H2 : Hp} {σ : Slots} {ρ : Envr} {φ : Ph}
/-- a name is told no more -/
theorem Ok.del (k : Ok K w mg C H σ ρ φ) (j : Nat) (v : Option V) : Ok K w mg C H (σ.set j v) (ρ.set j none) (setPh φ j []) where
  ex := k.ex
  own := fun i e h => by
    by_cases q : i = j
    · subst q
      rw [List.getElem?_set] at h
      split at h
      · split at h <;> cases h
      · exact absurd rfl (by assumption)
    · rw [List.getElem?_set_ne (Ne.symm q)] at h
      obtain ⟨u, e1, o1⟩ := k.own i e h
      exact ⟨u, by rw [List.getElem?_set_ne (Ne.symm q)]; exact e1, by rw [setPh_ne q]; exact o1⟩
  off := fun i h => by
    by_cases q : i = j
    · subst q
      exact setPh_same
    · rw [setPh_ne q]
      exact k.off i fun e z => h e (by rw [List.getElem?_set_ne (Ne.symm q)]; exact z)
  dis := fun i i' a h h' => by
    rcases mem_setPh h with ⟨_, q⟩ | ⟨_, q⟩
    · cases q
    · rcases mem_setPh h' with ⟨_, q'⟩ | ⟨_, q'⟩
      · cases q'
      · exact k.dis i i' a q q'
  sep := fun i a h => by
    rcases mem_setPh h with ⟨_, q⟩ | ⟨_, q⟩
    · cases q
    · exact k.sep i a q
  len := by rw [List.length_set, List.length_set]; exact k.len
theorem Ok.setOpq (k : Ok K w mg C H σ ρ φ) (j : Nat) (v : V) : Ok K w mg C H (σ.set j (some v)) (ρ.set j (some (.opq v))) (setPh φ j []) := by
  by_cases h : j < σ.length
  · exact k.set h .opq (fun _ z => nomatch z)
  · have h1 : σ.set j (some v) = σ := List.set_eq_of_length_le (by omega)
    have h2 : ρ.set j (some (.opq v)) = ρ := List.set_eq_of_length_le (by have := k.len; omega)
    have h3 : setPh φ j [] = φ := by
      funext i
      by_cases q : i = j
      · subst q
        rw [setPh_same, k.off i fun ev z => ?_]
        have := (List.getElem?_eq_some_iff.mp z).1
        have := k.len
        omega
      · exact setPh_ne q
    rw [h1, h2, h3]; exact k
theorem Step.drop {j : Nat} : Step C H (Sof φ) C H (Sof (setPh φ j [])) := Step.less fun _ z => z.set.elim id fun z => nomatch z
end
/-- a class of the raised, a class named: b -/
structure XcIn (K : PySem.W.Frag) (mg : Str → Option Value) (c c0 : Str) (b : Bool) : Prop where
  ex : ∃ a a0, mg c = some (.ref a) ∧ mg c0 = some (.ref a0) ∧ PySem.W.exmOne K (.ref a) (.ref a0) = some b
abbrev MX := V → Str → MS
/-- try: .. except c0 as e: .. ; cat: which classes are caught -/
def mTryAs (i : Nat) (cat : Str → Option Bool) (body : MS) (h : MX) : MS := fun ρ D => body ρ { D with xc := fun c ρ' => ∃ b, cat c = some b ∧ bif b then (∀ v, h v c (ρ'.set i (some (.opq v)))
  { nx := fun ρ2 => D.nx (ρ2.set i none), rt := D.rt, bk := fun ρ2 => D.bk (ρ2.set i none), ct := fun ρ2 => D.ct (ρ2.set i none), xc := fun _ _ => False }) else D.xc c ρ' }
/-- try: .. except c0: .. -/
def mTry (cat : Str → Option Bool) (body : MS) (h : Str → MS) : MS := fun ρ D => body ρ { D with xc := fun c ρ' => ∃ b, cat c = some b ∧ bif b then h c ρ' { D with xc := fun _ _ => False } else D.xc c ρ' }
abbrev W0 : WX := fun _ _ _ _ => False
section
variable {X : Cx} {W : WX} {pin : List Nat} {pos pos' np : Pos} {body suite : List Stmt} {b₀ : Stmt} {mb : MS}
theorem takesS {a : Addr} {pn : List (Addr × Obj)} : Takes (X.suite a pn) W0 := fun _ _ x => by
  obtain ⟨_, _, _, _, _, _, _, _, _, _, _, _, _, _, _, _, z⟩ := x
  exact z.elim
theorem ts_tryAs {mh : MX} {cat : Str → Option Bool} {x n : Str} (i : Nat) (hs : X.stack = X.env :: X.outer) (hf : X.env.frame = some X.env.locals) (hN : X.N.Nodup) (tk : Takes X W)
    (hcat : ∀ c b, cat c = some b → XcIn X.K X.mg c x b) (hx : ∃ a0, X.mg x = some (.ref a0)) (hg : Gl X x)
    (hb : ∀ (W' : WX) (pn : List (Addr × Obj)) (xe : Value → Shared → Prop), Takes (X.tr pn xe) W' → PassesOwn (model X.prog X.w) X.A X.env xe → TrB (X.tr pn xe) W' pin body mb)
    (hsu : ∀ (a D : Addr) (oe : Obj) (c : Str) (pn : List (Addr × Obj)), cat c = some true → X.mg c = some (.ref D) → Zc (.ref D) none oe → (∃ vs, oe.data = .fields vs) → TrB (X.suite a ((a, oe) :: pn)) W0 pin (b₀ :: suite) (mh (.ref a) c))
    (hi : X.N[i]? = some n := by rfl) (hln : X.env.kindOf n = some .local := by rfl) (hp : i ∉ pin := by decide) (hdb : (x == ("__debug__" : Str)) = false := by decide) :
    TrS X W pin (.Try body [.ExceptHandler (some (.Name x np)) (some n) (b₀ :: suite) pos'] [] [] pos) (mTryAs i cat mb mh) := by
  obtain ⟨a0, hx⟩ := hx
  refine ⟨fun C H σ ρ φ D DD k q p pins s I => ?_⟩
  have hl : i < σ.length := by rw [I.len]; exact (List.getElem?_eq_some_iff.mp hi).1
  refine (ps_try_as (tb := fun W' => fun D σ H => ∀ pn xe, Takes (X.tr pn xe) W' → PassesOwn (model X.prog X.w) X.A X.env xe → WB (X.tr pn xe) body D σ H)
    (ts := fun a cls d => fun D σ H => ∀ oe pn, Zc cls d oe → (∃ vs, oe.data = .fields vs) → WB (X.suite a ((a, oe) :: pn)) (b₀ :: suite) D σ H)
    hs hf hN hi hln ⟨hg, hdb, .inl hx⟩ tk (fun W' pn xe t1 t2 => ⟨fun pins s σ H D I h => h pn xe t1 t2 pins s I⟩) (fun a oe cls d pn z f => ⟨fun pins s σ H D I h => h oe pn z f pins s I⟩)).to ?_ pins s I
  intro pn xe t1 t2
  refine (hb _ pn xe t1 t2).run C H σ ρ φ _ _ k q ⟨p.nx, p.rt, p.bk, p.ct, ?_⟩
  intro c ρ2 σ2 a C2 H2 φ2 q2 k2 s2 ag hm
  obtain ⟨b, hb1, q2⟩ := q2
  obtain ⟨a', a0', e1, e2, e3⟩ := (hcat c b hb1).ex
  rw [hx] at e2; cases e2
  have hm' : X.mg c = some (.ref a) := hm
  rw [hm'] at e1; cases e1
  refine ⟨b, e3, fun hb2 => ?_, fun hb2 => ?_⟩
  · subst hb2
    intro ax hax oe pn2 z f
    have k3 : Ok X.K X.w X.mg C2 H2 (σ2.set i (some (.ref ax))) (ρ2.set i (some (.opq (.ref ax)))) (setPh φ2 i []) := k2.setOpq i _
    refine (hsu ax a oe c pn2 hb1 hm' z f).run C2 H2 _ _ _ _ _ k3 (q2 (.ref ax)) ?_
    have pp := p.step (s2.trans Step.drop k2.sepS) k3.sepS (ag.trans (Agree.set (v := some (.ref ax)) hp))
    refine ⟨fun ρ3 σ3 C3 H3 φ3 q3 k3 s3 a3 => ?_, fun rv ρ3 σ3 v C3 H3 φ3 F q3 k3 s3 r3 f3 a3 => ?_, fun ρ3 σ3 C3 H3 φ3 q3 k3 s3 a3 => ?_, fun ρ3 σ3 C3 H3 φ3 q3 k3 s3 a3 => ?_, fun _ _ _ _ _ _ _ z => z.elim⟩
    · exact pp.nx _ _ C3 H3 _ q3 (Ok.del k3 i none) (s3.trans Step.drop (Ok.sepS k3)) (a3.trans (Agree.set hp))
    · exact pp.rt rv ρ3 σ3 v C3 H3 φ3 F q3 k3 s3 r3 f3 a3
    · exact pp.bk _ _ C3 H3 _ q3 (Ok.del k3 i none) (s3.trans Step.drop (Ok.sepS k3)) (a3.trans (Agree.set hp))
    · exact pp.ct _ _ C3 H3 _ q3 (Ok.del k3 i none) (s3.trans Step.drop (Ok.sepS k3)) (a3.trans (Agree.set hp))
  · subst hb2
    exact p.xc c ρ2 σ2 a C2 H2 φ2 q2 k2 s2 ag hm
theorem ts_try {mh : Str → MS} {cat : Str → Option Bool} {x : Str} (hs : X.stack = X.env :: X.outer) (hf : X.env.frame = some X.env.locals) (tk : Takes X W)
    (hcat : ∀ c b, cat c = some b → XcIn X.K X.mg c x b) (hx : ∃ a0, X.mg x = some (.ref a0)) (hg : Gl X x)
    (hb : ∀ (W' : WX) (pn : List (Addr × Obj)) (xe : Value → Shared → Prop), Takes (X.tr pn xe) W' → PassesOwn (model X.prog X.w) X.A X.env xe → TrB (X.tr pn xe) W' pin body mb)
    (hsu : ∀ (a D : Addr) (oe : Obj) (c : Str) (pn : List (Addr × Obj)), cat c = some true → X.mg c = some (.ref D) → Zc (.ref D) none oe → (∃ vs, oe.data = .fields vs) → TrB (X.suite a ((a, oe) :: pn)) W0 pin (b₀ :: suite) (mh c))
    (hdb : (x == ("__debug__" : Str)) = false := by decide) :
    TrS X W pin (.Try body [.ExceptHandler (some (.Name x np)) none (b₀ :: suite) pos'] [] [] pos) (mTry cat mb mh) := by
  obtain ⟨a0, hx⟩ := hx
  refine ⟨fun C H σ ρ φ D DD k q p => ?_⟩
  refine (ps_try_only (tb := fun W' => fun D σ H => ∀ pn xe, Takes (X.tr pn xe) W' → PassesOwn (model X.prog X.w) X.A X.env xe → WB (X.tr pn xe) body D σ H)
    (ts := fun a cls d => fun D σ H => ∀ oe pn, Zc cls d oe → (∃ vs, oe.data = .fields vs) → WB (X.suite a ((a, oe) :: pn)) (b₀ :: suite) D σ H)
    hs hf ⟨hg, hdb, .inl hx⟩ tk (fun W' pn xe t1 t2 => ⟨fun pins s σ H D I h => h pn xe t1 t2 pins s I⟩) (fun a oe cls d pn z f => ⟨fun pins s σ H D I h => h oe pn z f pins s I⟩)).to ?_
  intro pn xe t1 t2
  refine (hb _ pn xe t1 t2).run C H σ ρ φ _ _ k q ⟨p.nx, p.rt, p.bk, p.ct, ?_⟩
  intro c ρ2 σ2 a C2 H2 φ2 q2 k2 s2 ag hm
  obtain ⟨b, hb1, q2⟩ := q2
  obtain ⟨a', a0', e1, e2, e3⟩ := (hcat c b hb1).ex
  rw [hx] at e2; cases e2
  have hm' : X.mg c = some (.ref a) := hm
  rw [hm'] at e1; cases e1
  refine ⟨b, e3, fun hb2 => ?_, fun hb2 => ?_⟩
  · subst hb2
    intro ax hax oe pn2 z f
    refine (hsu ax a oe c pn2 hb1 hm' z f).run C2 H2 σ2 ρ2 φ2 _ _ k2 q2 ?_
    have pp := p.step s2 k2.sepS ag
    exact ⟨pp.nx, pp.rt, pp.bk, pp.ct, fun _ _ _ _ _ _ _ z => z.elim⟩
  · subst hb2
    exact p.xc c ρ2 σ2 a C2 H2 φ2 q2 k2 s2 ag hm
/-- an instance of the class c asked after the name y -/
structure IsOk (K : PySem.W.Frag) (mg : Str → Option Value) (c y : Str) (b : Bool) : Prop where
  ex : ∃ (D : Addr) (cw : V) (cv : Value), mg c = some (.ref D) ∧ ExcC K D ∧ (mg y = some cv ∨ (mg y = none ∧ bootBuiltins y = some cv ∧ y ≠ "__name__")) ∧ ClsV cw cv ∧ PySem.W.kitOne K (.ref D) cv = some b
theorem _root_.L2.ClsV.rel {c : V} {u : Value} (h : ClsV c u) : RelV c u := by cases h <;> rfl
theorem pe_cls {cv : Value} {cw : V} {y : Str} {p : Pos} (hg : Gl X y) (h : X.mg y = some cv ∨ (X.mg y = none ∧ bootBuiltins y = some cv ∧ y ≠ "__name__")) (k : ClsV cw cv) (hdb : (y == ("__debug__" : Str)) = false) : PE X (.Name y p) (tC cw) := by
  rcases h with h | ⟨h1, h2, h3⟩
  · exact pe_glob hg h k.rel hdb
  · exact pe_bltn hg h1 h2 k.rel h3 hdb
theorem Own.opq_inv {K w mg C H v u F} (h : Own K w mg C H v (.opq u) F) : v = u := by
  cases h with
  | opq => rfl
/-- the pinned exception as isinstance sees it -/
theorem suite_kit {a D : Addr} {oe : Obj} {pn pins : List (Addr × Obj)} {σ : Slots} {H : Hp} {s : Shared} (I : Inv (X.suite a ((a, oe) :: pn)) pins σ H s) (hz : Zc (.ref D) none oe) (hf : ∃ vs, oe.data = .fields vs) : PySem.W.InstAt s.heap a oe D none := by
  have hget := (I.pin (a, oe) (List.mem_append.mpr (.inl List.mem_cons_self))).1
  obtain ⟨vs, hv⟩ := hf
  obtain ⟨oc, od, oda, osl⟩ := oe
  obtain ⟨h1, h2⟩ := hz
  dsimp only at h1 h2 hv
  subst h1 h2 hv
  exact ⟨hget, rfl, rfl, trivial⟩
def mIsE (i : Nat) (v : V) (b : Bool) : MN := fun ρ Q _ => ρ[i]? = some (some (.opq v)) ∧ Q (.d (.bool b))
theorem tn_isE {a : Addr} {oe : Obj} {pn : List (Addr × Obj)} {c y n : Str} {D : Addr} {bb : Bool} {W : WX} {p p1 p2 : Pos} (i : Nat) (hI : IsOk X.K X.mg c y bb) (hm : X.mg c = some (.ref D)) (hz : Zc (.ref D) none oe) (hf : ∃ vs, oe.data = .fields vs)
    (hgi : Gl X "isinstance") (hmi : X.mg "isinstance" = none) (hgy : Gl X y) (hi : X.N[i]? = some n := by rfl) (hv : Vis X.env.scope n := by first | exact Or.inl rfl | exact Or.inr (Or.inl rfl) | exact Or.inr (Or.inr rfl))
    (hd : (n == ("__debug__" : Str)) = false := by decide) (hcd : (n == ("__classdict__" : Str)) = false := by decide) (hdb : (y == ("__debug__" : Str)) = false := by decide)
    (hs : starEach [.Name n p1, .Name y p2] X.env = (false, eval (.Name n p1) X.env) :: starEach [.Name y p2] X.env := by rfl) (hs2 : starEach [.Name y p2] X.env = [(false, eval (.Name y p2) X.env)] := by rfl) :
    TrN (X.suite a ((a, oe) :: pn)) W (.Call (.Name "isinstance" p) [.Name n p1, .Name y p2] [] pos) (mIsE i (.ref a) bb) := by
  obtain ⟨D', cw, cv, e1, hC, hy, kc, ko⟩ := hI.ex
  rw [hm] at e1; cases e1
  refine ⟨fun C H σ ρ φ Q R QQ k q pp x => ?_⟩
  have hpe := pe_callB (X := X.suite a ((a, oe) :: pn)) (pos := pos) (p := p) (call_isE (X := X) (pn := pn) hC hz hf) hgi hmi (by decide +kernel)
    (pa_cons (pe_var (X := X.suite a ((a, oe) :: pn)) (i := i) (pos := p1) hi hv hd hcd) (pa_cons (pe_cls (X := X.suite a ((a, oe) :: pn)) (p := p2) hgy hy kc hdb) pa_nil hs2) hs) (by decide) (by decide) hs (by
      show (backTo pos (starEach [.Name y p2] X.env)).any (·.1) = false
      rw [hs2]; rfl)
  refine hpe.to ?_
  obtain ⟨q1, q2⟩ := q
  obtain ⟨v, e1, o⟩ := k.own i _ q1
  have := o.opq_inv; subst this
  exact ⟨_, e1, cw, cv, bb, rfl, fun u r => kc.eq r, ko, pp _ _ C H [] q2 (New.refl k.ex) ⟨.bl _, rfl⟩⟩
/-- names of classes, asked after one by one -/
inductive ClsArgs (X : Cx) (D : Addr) : List Expr → List V → List Value → Bool → Prop
  | nil : ClsArgs X D [] [] [] false
  | cons {y : Str} {p : Pos} {es : List Expr} {cw : V} {cv : Value} {cs : List V} {us : List Value} {b r q : Bool} (hgy : Gl X y) (hy : X.mg y = some cv ∨ (X.mg y = none ∧ bootBuiltins y = some cv ∧ y ≠ "__name__")) (k : ClsV cw cv)
      (ko : PySem.W.kitOne X.K (.ref D) cv = some b) (hdb : (y == ("__debug__" : Str)) = false) (hs : starEach (.Name y p :: es) X.env = (false, eval (.Name y p) X.env) :: starEach es X.env) (t : ClsArgs X D es cs us r) (e : (b || r) = q) : ClsArgs X D (.Name y p :: es) (cw :: cs) (cv :: us) q
theorem ClsArgs.pa {D : Addr} {es cs us b} (h : ClsArgs X D es cs us b) : PA X es (fun _ H Q => Q cs H) ∧ Paired ClsV cs us ∧ PySem.W.kitAny X.K (.ref D) us = some b := by
  induction h with
  | nil => exact ⟨pa_nil, .nil, rfl⟩
  | @cons y p es cw cv cs us b r q hgy hy k ko hdb hs t e ih =>
    subst e
    obtain ⟨i1, i2, i3⟩ := ih
    refine ⟨pa_cons (pe_cls (p := p) hgy hy k hdb) i1 hs, .cons k i2, kitAny_cons ko (fun e => ?_) (fun e => by rw [e]; rfl)⟩
    rw [i3, e]; rfl
theorem call_isET {X : Cx} {a D : Addr} {oe : Obj} {pn : List (Addr × Obj)} (C : ExcC X.K D) (hz : Zc (.ref D) none oe) (hf : ∃ vs, oe.data = .fields vs) :
    CallR (X.suite a ((a, oe) :: pn)) (.builtin "isinstance") (fun xs H Q => ∃ tp cs us b, xs = [.ref a, .ref tp] ∧ H tp = some (.tup cs) ∧ Paired ClsV cs us ∧ PySem.W.kitAny X.K (.ref D) us = some b ∧ Q (.bl b) H) := by
  intro pins s σ H xs us Q I r h
  obtain ⟨tp, cs, us', b, rfl, hT, k, e, q⟩ := h
  obtain ⟨u1, u2, rfl, r1, r2⟩ := vals2 r
  cases (show u1 = Value.ref a from r1)
  cases (show u2 = Value.ref tp from r2)
  obtain ⟨_, its, rv, o, h1, h2, n, h3⟩ := (show ObjOk X.prog X.w H s.heap tp (.tup cs) from I.hok tp _ hT)
  have e3 := ClsV.all k rv
  subst e3
  obtain ⟨oc, od, dt, sl⟩ := o
  simp only at h2 h3
  subst h2 h3
  exact PySem.W.kia_tup (PySem.W.handS_kitx_exc C.hg C.hk C.hs C.hd C.ha C.hn C.ht C.hm) I.kIn (suite_kit I hz hf) h1 e (fun z => nomatch z) fun tk => ⟨.bl b, H, I.tok tk, rfl, q⟩
theorem tn_isET {a : Addr} {oe : Obj} {pn : List (Addr × Obj)} {n : Str} {D : Addr} {bb : Bool} {W : WX} {p p1 p2 : Pos} {es : List Expr} {cs : List V} {us : List Value} {kk : Nat} (i : Nat) (hC : ExcC X.K D) (hA : ClsArgs (X.suite a ((a, oe) :: pn)) D es cs us bb) (hz : Zc (.ref D) none oe)
    (hf : ∃ vs, oe.data = .fields vs) (hgi : Gl X "isinstance") (hmi : X.mg "isinstance" = none) (hl : cs.length ≤ 1000 := by exact Nat.le_of_ble_eq_true rfl) (hi : X.N[i]? = some n := by rfl)
    (hv : Vis X.env.scope n := by first | exact Or.inl rfl | exact Or.inr (Or.inl rfl) | exact Or.inr (Or.inr rfl)) (hd : (n == ("__debug__" : Str)) = false := by decide) (hcd : (n == ("__classdict__" : Str)) = false := by decide)
    (hs : starEach [.Name n p1, .Tuple es kk p2] X.env = (false, eval (.Name n p1) X.env) :: starEach [.Tuple es kk p2] X.env := by rfl) (hs2 : starEach [.Tuple es kk p2] X.env = [(false, eval (.Tuple es kk p2) X.env)] := by rfl) :
    TrN (X.suite a ((a, oe) :: pn)) W (.Call (.Name "isinstance" p) [.Name n p1, .Tuple es kk p2] [] pos) (mIsE i (.ref a) bb) := by
  obtain ⟨i1, i2, i3⟩ := hA.pa
  refine ⟨fun C H σ ρ φ Q R QQ k q pp x => ?_⟩
  have hpe := pe_callB (X := X.suite a ((a, oe) :: pn)) (pos := pos) (p := p) (call_isET (X := X) (pn := pn) hC hz hf) hgi hmi (by decide +kernel)
    (pa_cons (pe_var (X := X.suite a ((a, oe) :: pn)) (i := i) (pos := p1) hi hv hd hcd) (pa_cons (pe_tup (pos := p2) (x1 := kk) i1) pa_nil hs2) hs) (by decide) (by decide) hs (by
      show (backTo pos (starEach [.Tuple es kk p2] X.env)).any (·.1) = false
      rw [hs2]; rfl)
  refine hpe.to ?_
  obtain ⟨q1, q2⟩ := q
  obtain ⟨v, e1, o⟩ := k.own i _ q1
  have := o.opq_inv; subst this
  refine ⟨_, e1, Nat.le_of_lt (small1000 (by omega)), fun t ht => ?_⟩
  exact ⟨t, cs, us, bb, rfl, upd_same, i2, i3, pp _ _ C _ [] q2 (New.lost k.ex ht) ⟨.bl _, rfl⟩⟩
end
inductive Fx where
  | exC (c : Str)
  | isi (c y : Str) (b : Bool)
  | isT (c : Str) (T : String) (b : Bool)
def Fx.ok (K : PySem.W.Frag) : Fx → Bool
  | .exC c => He.eqO (PySem.W.findIn K (.ref (He.ga K c)) "__getattribute__") (some (some (.builtin "BaseException.__getattribute__"))) && (He.eqO (PySem.W.findIn K (.ref (He.ga K c)) "__getattr__") (some none) &&
      (decide (PySem.W.subIn K (.ref (He.ga K c)) (.type "BaseException") = some true) && (PySem.W.hasDictIn K (He.ga K c) && (He.eqO (PySem.W.findIn K (.ref (He.ga K c)) "__class__") (some (some (.builtin "object.__class__"))) &&
      (He.eqO (PySem.W.specialIn K (.builtin "object.__class__") "__get__") (some (some (.builtin "getset_descriptor.__get__"))) && (decide (PySem.W.takesIn K (.builtin "object.__class__") = some true) && decide (PySem.W.mroIn K (He.ga K c) (.type "object") = some true)))))))
  | .isi c y b => decide (PySem.W.kitOne K (.ref (He.ga K c)) (.ref (He.ga K y)) = some b)
  | .isT c T b => decide (PySem.W.kitOne K (.ref (He.ga K c)) (.type T) = some b)
section
variable {K : PySem.W.Frag} {mg : Str → Option Value}
theorem excC_ok {c : Str} (h : (Fx.exC c).ok K = true) : ExcC K (He.ga K c) := by
  obtain ⟨h1, h⟩ := He.ba h
  obtain ⟨h2, h⟩ := He.ba h
  obtain ⟨h3, h⟩ := He.ba h
  obtain ⟨h4, h⟩ := He.ba h
  obtain ⟨h5, h⟩ := He.ba h
  obtain ⟨h6, h⟩ := He.ba h
  obtain ⟨h7, h8⟩ := He.ba h
  exact ⟨He.eqO_ok h1, He.eqO_ok h2, of_decide_eq_true h3, h4, He.eqO_ok h5, He.eqO_ok h6, of_decide_eq_true h7, of_decide_eq_true h8⟩
theorem isi_ok {c y : Str} {b : Bool} (h : (Fx.isi c y b).ok K = true) : PySem.W.kitOne K (.ref (He.ga K c)) (.ref (He.ga K y)) = some b := of_decide_eq_true h
theorem isT_ok {c : Str} {T : String} {b : Bool} (h : (Fx.isT c T b).ok K = true) : PySem.W.kitOne K (.ref (He.ga K c)) (.type T) = some b := of_decide_eq_true h
theorem isOk_own {c y : Str} {b : Bool} (gc : mg c = some (.ref (He.ga K c))) (gy : mg y = some (.ref (He.ga K y))) (h0 : (Fx.exC c).ok K = true) (h : (Fx.isi c y b).ok K = true) : IsOk K mg c y b := ⟨_, _, _, gc, excC_ok h0, .inl gy, .own _, isi_ok h⟩
theorem isOk_ty {c y : Str} {T : String} {b : Bool} (gc : mg c = some (.ref (He.ga K c))) (gy : mg y = none) (hv : bootBuiltins y = some (.type T)) (hn : y ≠ "__name__") (h0 : (Fx.exC c).ok K = true) (h : (Fx.isT c T b).ok K = true) : IsOk K mg c y b :=
  ⟨_, _, _, gc, excC_ok h0, .inr ⟨gy, hv, hn⟩, .ty T, isT_ok h⟩
theorem xcIn_ok {c y : Str} {b : Bool} (gc : mg c = some (.ref (He.ga K c))) (gy : mg y = some (.ref (He.ga K y))) (h : (He.Fa.exm c y b).ok K = true) : XcIn K mg c y b := ⟨_, _, gc, gy, He.exm_ok h⟩
end
abbrev AlX : Type := Bool × He.AlD
def obsX (fa : List He.Fa) (fn : List He.DefD) (fx : List Fx) (K : PySem.W.Frag) : AlX := (fx.all fun f => f.ok K, He.obsD fa fn K)
def valX (fn : List He.DefD) : AlX := (true, He.valD fn)
structure SaysX (fa : List He.Fa) (fn : List He.DefD) (fx : List Fx) (K : PySem.W.Frag) : Prop where
  d : He.SaysD fa fn K
  x : (fx.all fun f => f.ok K) = true
def obsXG (n : Nat) (fa : List He.Fa) (fn : List He.DefD) (fx : List Fx) (g : Addr → Option Obj) : AlX := obsX fa fn fx (He.frG g (He.asD g n))
def hookX (n : Nat) (fa : List He.Fa) (fn : List He.DefD) (fx : List Fx) : PySem.W.Hook where
  α := AlX
  obs := fun s => obsXG n fa fn fx s.heap.get?
  val := fun _ => valX fn
  says := fun _ h => ∃ K : PySem.W.Frag, K.In h ∧ SaysX fa fn fx K
  of := fun _ _ e => ⟨_, He.frG_in, ⟨congrArg (fun z : AlX => z.2) e, congrArg (fun z : AlX => z.1) e⟩⟩
  keeps := fun _ _ _ ⟨K, hK, c⟩ k => ⟨K, PySem.W.Frag.In.keeps hK k, c⟩
theorem obsXG_eq {n : Nat} {fa : List He.Fa} {fn : List He.DefD} {fx : List Fx} {g : Addr → Option Obj} {s : Shared} (h : ∀ a, g a = s.heap.get? a) : obsXG n fa fn fx g = (hookX n fa fn fx).obs s := by
  have e : g = s.heap.get? := funext h
  rw [e] <;> rfl
theorem SaysX.fx {fa : List He.Fa} {fn : List He.DefD} {fx : List Fx} {K : PySem.W.Frag} (c : SaysX fa fn fx K) (i : Nat) {f : Fx} (h : fx[i]? = some f := by rfl) : f.ok K = true := List.all_eq_true.mp c.x f (List.mem_of_getElem? h)
end Ac
set_option Elab.async false
set_option linter.all false
set_option maxRecDepth 100000
set_option maxHeartbeats 2000000
namespace Ac
open PySem PySem.Spec PyProof.Rows L2
theorem EPost.step {X : Cx} {Q : QE} {C H : Hp} {σ : Slots} {φ : Ph} {QQ : VK} {C2 H2 : Hp} {φ2 : Ph} (p : EPost X Q C H σ φ QQ) (s : Step C H (Sof φ) C2 H2 (Sof φ2)) (sep : ∀ a, Sof φ2 a → C2 a = none) : EPost X Q C2 H2 σ φ2 QQ :=
  fun rv ρ3 v C3 H3 φ3 F q k t r f => p rv ρ3 v C3 H3 φ3 F q k (s.trans t sep) r f
def mIfX (t : MT) (a b : ME) : ME := fun ρ Q R => t ρ (fun k ρ' => bif k then a ρ' Q R else b ρ' Q R) R
theorem te_if {X : Cx} {W : WX} {pos : Pos} {c a b : Expr} {mt : MT} {ma mb : ME} (ht : TrT X W c mt) (ha : TrE X W a ma) (hb : TrE X W b mb) : TrE X W (.IfExp c a b pos) (mIfX mt ma mb) := by
  refine ⟨fun C H σ ρ φ Q R QQ k q p x => (pe_ifExp (pt_w c) (pe_w a) (pe_w b)).to ?_⟩
  refine ht.run C H σ ρ φ _ R _ k q (fun bb ρ2 C2 H2 φ2 q2 k2 s2 => ?_) x
  cases bb with
  | true => exact iteT (ha.run C2 H2 σ ρ2 φ2 Q R QQ k2 q2 (p.step s2 k2.sepS) (x.step s2 k2.sepS))
  | false => exact iteF (hb.run C2 H2 σ ρ2 φ2 Q R QQ k2 q2 (p.step s2 k2.sepS) (x.step s2 k2.sepS))
def catL (l : List (Str × Bool)) : Str → Option Bool := fun c => l.lookup c
theorem catL_mem : ∀ {l : List (Str × Bool)} {c : Str} {b : Bool}, catL l c = some b → (c, b) ∈ l
  | [], _, _, h => by cases h
  | (x, y) :: l, c, b, h => by
    unfold catL at h
    rw [List.lookup_cons] at h
    cases z : (c == x) with
    | true =>
      rw [z] at h
      cases h
      rw [eq_of_beq z]
      exact List.mem_cons_self
    | false =>
      rw [z] at h
      exact List.mem_cons_of_mem _ (catL_mem (l := l) h)
theorem catL_ok {K : PySem.W.Frag} {mg : Str → Option Value} {x : Str} : ∀ {l : List (Str × Bool)}, (∀ p ∈ l, XcIn K mg p.1 x p.2) → ∀ c b, catL l c = some b → XcIn K mg c x b := fun h c b e => h (c, b) (catL_mem e)
theorem cat1 {c0 c : Str} (hc : catL [(c0, true)] c = some true) : c = c0 := by
  have := catL_mem hc
  rcases List.mem_cons.mp this with e | e
  · exact (Prod.mk.inj e).1
  · cases e
/-- the def itself, before anything is known of it: never called -/
def gNone : GR := fun _ _ => False
theorem cl_none {P : Program} {w : World} {K : PySem.W.Frag} {mg : Str → Option Value} {base : Heap} {x : Str} {params : Arguments} {body : List Stmt} {scope : Scope} {f : Addr} {fd : FuncData} {N ps : List Str} (F : FunD K x x params body scope [] [] f fd) (hm : mg x = some (.ref f))
    (hb : Binds K fd ps []) (S : FnScope N ps scope) : Cl P w K mg base 1 x gNone := by
  refine ⟨f, fd, ps, hm, F.kp, hb, F.ok S (fun vs H Q E h => ?_) fun cdv A outer s H vs Q E hr h => ?_⟩
  · obtain ⟨C, ds, out, e, r, hg, _⟩ := h
    exact hg.elim
  · obtain ⟨C, ds, out, e, r, hg, q⟩ := h
    exact hg.elim
theorem spP_law {K : PySem.W.Frag} {w : World} {mg : Str → Option Value} {g : GR} {H : Hp} {a : Addr} {ns : List Int} (hS : SqL K H a (ns.map V.int)) (hg : g [.list (ns.map .int)] (.ok (.dat (.bool true)))) :
    spP K w mg g [.ref a] H (fun v _ => v = .bl true) fun _ _ _ => False := by
  have lintsR : ∀ ns : List Int, RpL K w H (ns.map V.int) (ns.map PyData.int) := fun ns => by
    induction ns with
    | nil => exact .nil
    | cons n ns ih => exact .cons (.int n) ih
  refine ⟨H, _, _, Same.refl H, .cons (.lst hS (lintsR ns)) .nil, hg, fun v C2 H2 F n o => ?_⟩
  obtain ⟨r, _⟩ := o.dat_inv
  cases r; rfl
theorem walkX {l : PySem.W.OpenLaw} {n k : Nat} {q : Program} {loose : List Str} {XP : (Str → Option Value) → Heap → Prop} {YP : World → Heap → Prop} {d : DefRec} {x : Str} {g : GR} (e1 : l.most = some n) (e2 : n ≤ sizeLine) (e3 : d.params.defaults = []) (room : Room k callerA)
    (fs : ∀ (w : World) (mg : Str → Option Value) (fa : Addr) (h : Heap), YP w h → h.Ns mainGlobals mg → mg d.name = some (.ref fa) → ∃ (K : PySem.W.Frag) (fd : FuncData), K.In h ∧ (∀ (s : Shared) (u : Value), BindsTo s fd ⟨[u], []⟩ [(x, u)]) ∧
      ∀ base : Heap, FnOk l.prog w K mg base (L2.CX l.prog w) k fa fd [x] (spP K w mg g))
    (hg : ∀ ns : List Int, ns.length ≤ n → (∀ z ∈ ns, Builtin.Int.intBits z ≤ 1048576) → g [.list (ns.map .int)] (.ok (.dat (.bool true)))) : PySem.W.WalkO q loose XP YP l.row.toRowW d [] (fun f vs => PySem.call f vs) := by
  refine Att.attach_callB e1 e3 fun w t0 t1 mg mb fa ob pm cd doc a vs ns G Y z1 z2 z3 z4 z5 z6 z7 z8 z9 => ?_
  obtain ⟨K, fd, KX, bd, ok⟩ := fs w mg fa _ Y G.T.g z4
  refine law_call KX G.T.g G.T.b G.T.builtins G.T.nolimit z9 z5 z6 (Nat.le_trans z7 e2) room (fun base _ _ => ok base) bd (fun H _ hS => spP_law hS (hg ns z7 z8)) fun H e s' h => ?_
  obtain ⟨_, _, _, _, _, _, _, _, _, _, _, _, z⟩ := h
  exact z.elim
end Ac
namespace Ac
structure Pt where
  x : Int
  y : Int
  w : Int
  deriving DecidableEq, Inhabited
structure Ln where
  a : Int
  b : Int
  c : Int
  deriving DecidableEq
/-- a fraction -/
structure Fr where
  t : Int
  b : Int
  deriving DecidableEq
/-- a stretch, a fence -/
structure Sg where
  p : Pt
  q : Pt
  deriving DecidableEq, Inhabited
def sgn (n : Int) : Int := if 0 < n then 1 else if n < 0 then -1 else 0
/-- by what a fraction is made lowest -/
def lowB (t b : Int) : Int := if b < 0 then 0 - (Int.gcd t b : Int) else (Int.gcd t b : Int)
def lowest (t b : Int) : Fr := ⟨t.fdiv (lowB t b), b.fdiv (lowB t b)⟩
def shortB (x y w : Int) : Int := if w < 0 then 0 - (Int.gcd (Int.gcd x y) w : Int) else (Int.gcd (Int.gcd x y) w : Int)
def shortest (x y w : Int) : Pt := ⟨x.fdiv (shortB x y w), y.fdiv (shortB x y w), w.fdiv (shortB x y w)⟩
def under (f g : Fr) : Bool := decide (f.t * g.b < g.t * f.b)
def across (p : Pt) : Fr := lowest p.x p.w
def upF (p : Pt) : Fr := lowest p.y p.w
def before (p q : Pt) : Bool := bif !(p.x * q.w == q.x * p.w) then decide (p.x * q.w < q.x * p.w) else decide (p.y * q.w < q.y * p.w)
def lineOf (p q : Pt) : Ln := ⟨p.y * q.w - p.w * q.y, p.w * q.x - p.x * q.w, p.x * q.y - p.y * q.x⟩
def sideOf (l : Ln) (p : Pt) : Int := sgn (l.a * p.x + l.b * p.y + l.c * p.w)
def turn (p q r : Pt) : Int := sideOf (lineOf p q) r
def met (l m : Ln) : Option Pt := bif l.a * m.b - l.b * m.a == 0 then none else some (shortest (l.b * m.c - l.c * m.b) (l.c * m.a - l.a * m.c) (l.a * m.b - l.b * m.a))
def amid (p q : Pt) : Pt := shortest (p.x * q.w + q.x * p.w) (p.y * q.w + q.y * p.w) (2 * p.w * q.w)
def stretch (p q : Pt) : Sg := bif before p q then ⟨p, q⟩ else ⟨q, p⟩
def liesOn (p : Pt) (s : Sg) : Bool := (p == s.p || p == s.q) || (bif (!before s.p p || !before p s.q) then false else turn s.p s.q p == 0)
inductive Mt where
  | none
  | spot (p : Pt)
  | part (s : Sg)
  deriving DecidableEq
def shared (s t : Sg) : Mt :=
  let low := bif before s.p t.p then t.p else s.p
  let high := bif before t.q s.q then t.q else s.q
  bif low == high then .spot low else bif before low high then .part ⟨low, high⟩ else .none
def meet (s t : Sg) : Mt :=
  bif sideOf (lineOf s.p s.q) t.p == 0 && sideOf (lineOf s.p s.q) t.q == 0 then shared s t
  else match met (lineOf s.p s.q) (lineOf t.p t.q) with
    | none => .none
    | some p => bif !liesOn p s || !liesOn p t then .none else .spot p
def Bt (n : Nat) (i : Int) : Prop := i.natAbs < 2 ^ n
theorem Bt.mono {n m : Nat} {i : Int} (h : Bt n i) (hm : n ≤ m) : Bt m i := Nat.lt_of_lt_of_le h (Nat.pow_le_pow_right (by decide) hm)
theorem Bt.mul {n m : Nat} {i j : Int} (h : Bt n i) (h' : Bt m j) : Bt (n + m) (i * j) := by
  unfold Bt at *
  rw [Int.natAbs_mul, Nat.pow_add]
  exact Nat.mul_lt_mul'' h h'
theorem Bt.add {n m k : Nat} {i j : Int} (h : Bt n i) (h' : Bt m j) (hn : n + 1 ≤ k) (hm : m + 1 ≤ k) : Bt k (i + j) := by
  have h1 : Bt (k - 1) i := h.mono (by omega)
  have h2 : Bt (k - 1) j := h'.mono (by omega)
  unfold Bt at *
  have e : 2 ^ k = 2 * 2 ^ (k - 1) := by rw [← Nat.pow_succ']; congr 1; omega
  omega
theorem Bt.neg {n : Nat} {i : Int} (h : Bt n i) : Bt n (-i) := by unfold Bt at *; omega
theorem Bt.sub {n m k : Nat} {i j : Int} (h : Bt n i) (h' : Bt m j) (hn : n + 1 ≤ k) (hm : m + 1 ≤ k) : Bt k (i - j) := h.add h'.neg hn hm
def Pt.Bt (n : Nat) (p : Pt) : Prop := Ac.Bt n p.x ∧ Ac.Bt n p.y ∧ Ac.Bt n p.w
def Ln.Bt (n : Nat) (l : Ln) : Prop := Ac.Bt n l.a ∧ Ac.Bt n l.b ∧ Ac.Bt n l.c
def Sg.Bt (n : Nat) (s : Sg) : Prop := s.p.Bt n ∧ s.q.Bt n
def Fr.Bt (n : Nat) (f : Fr) : Prop := Ac.Bt n f.t ∧ Ac.Bt n f.b
theorem Pt.Bt.mono {n m : Nat} {p : Pt} (h : p.Bt n) (hm : n ≤ m) : p.Bt m := ⟨h.1.mono hm, h.2.1.mono hm, h.2.2.mono hm⟩
theorem Sg.Bt.mono {n m : Nat} {p : Sg} (h : p.Bt n) (hm : n ≤ m) : p.Bt m := ⟨h.1.mono hm, h.2.mono hm⟩
theorem lineOf_bt {n : Nat} {p q : Pt} (hp : p.Bt n) (hq : q.Bt n) : (lineOf p q).Bt (2 * n + 1) := by
  obtain ⟨a, b, c⟩ := hp
  obtain ⟨d, e, f⟩ := hq
  exact ⟨(b.mul f).sub (c.mul e) (by omega) (by omega), (c.mul d).sub (a.mul f) (by omega) (by omega), (a.mul e).sub (b.mul d) (by omega) (by omega)⟩
theorem bt_zero {n : Nat} : Bt n 0 := Nat.two_pow_pos n
theorem fdiv_exact {a d : Int} (h : d ∣ a) : ∃ c, a = d * c ∧ (d ≠ 0 → a.fdiv d = c) := by
  obtain ⟨c, rfl⟩ := h
  exact ⟨c, rfl, fun hd => by rw [Int.mul_comm]; exact Int.mul_fdiv_cancel _ hd⟩
theorem lowB_dvd (t b : Int) : lowB t b ∣ t ∧ lowB t b ∣ b := by
  unfold lowB
  split
  · rw [Int.zero_sub]
    exact ⟨Int.neg_dvd.mpr (Int.gcd_dvd_left ..), Int.neg_dvd.mpr (Int.gcd_dvd_right ..)⟩
  · exact ⟨Int.gcd_dvd_left .., Int.gcd_dvd_right ..⟩
theorem shortB_dvd (x y w : Int) : shortB x y w ∣ x ∧ shortB x y w ∣ y ∧ shortB x y w ∣ w := by
  have h1 : ((Int.gcd (Int.gcd x y) w : Nat) : Int) ∣ x := Int.dvd_trans (Int.gcd_dvd_left ..) (Int.gcd_dvd_left ..)
  have h2 : ((Int.gcd (Int.gcd x y) w : Nat) : Int) ∣ y := Int.dvd_trans (Int.gcd_dvd_left ..) (Int.gcd_dvd_right ..)
  have h3 : ((Int.gcd (Int.gcd x y) w : Nat) : Int) ∣ w := Int.gcd_dvd_right ..
  unfold shortB
  split
  · rw [Int.zero_sub]
    exact ⟨Int.neg_dvd.mpr h1, Int.neg_dvd.mpr h2, Int.neg_dvd.mpr h3⟩
  · exact ⟨h1, h2, h3⟩
theorem lowB_ne {t b : Int} (h : b ≠ 0) : lowB t b ≠ 0 := fun z => h (Int.zero_dvd.mp (z ▸ (lowB_dvd t b).2))
theorem shortB_ne {x y w : Int} (h : w ≠ 0) : shortB x y w ≠ 0 := fun z => h (Int.zero_dvd.mp (z ▸ (shortB_dvd x y w).2.2))
theorem bt_of_dvd {n : Nat} {a d : Int} (h : d ∣ a) (h0 : a ≠ 0) (hb : Bt n a) : Bt n d := by
  unfold Bt at *
  exact Nat.lt_of_le_of_lt (Nat.le_of_dvd (by omega) (Int.natAbs_dvd_natAbs.mpr h)) hb
theorem bt_fdiv {n : Nat} {a d : Int} (h : d ∣ a) (hb : Bt n a) : Bt n (a.fdiv d) := by
  by_cases hd : d = 0
  · rw [hd, Int.fdiv_zero]; exact bt_zero
  · obtain ⟨c, e, hc⟩ := fdiv_exact h
    rw [hc hd]
    by_cases h0 : a = 0
    · rw [h0] at e
      have := (Int.mul_eq_zero.mp e.symm).resolve_left hd
      rw [this]; exact bt_zero
    · exact bt_of_dvd ⟨d, by rw [e, Int.mul_comm]⟩ h0 hb
theorem lowB_bt {n : Nat} {t b : Int} (h : b ≠ 0) (hb : Bt n b) : Bt n (lowB t b) := bt_of_dvd (lowB_dvd t b).2 h hb
theorem shortB_bt {n : Nat} {x y w : Int} (h : w ≠ 0) (hb : Bt n w) : Bt n (shortB x y w) := bt_of_dvd (shortB_dvd x y w).2.2 h hb
theorem shortest_bt {n : Nat} {x y w : Int} (h1 : Bt n x) (h2 : Bt n y) (h3 : Bt n w) : (shortest x y w).Bt n :=
  ⟨bt_fdiv (shortB_dvd x y w).1 h1, bt_fdiv (shortB_dvd x y w).2.1 h2, bt_fdiv (shortB_dvd x y w).2.2 h3⟩
theorem lowest_bt {n : Nat} {x w : Int} (h1 : Bt n x) (h3 : Bt n w) : (lowest x w).Bt n := ⟨bt_fdiv (lowB_dvd x w).1 h1, bt_fdiv (lowB_dvd x w).2 h3⟩
theorem met_bt {n : Nat} {l m : Ln} {p : Pt} (hl : l.Bt n) (hm : m.Bt n) (h : met l m = some p) : p.Bt (2 * n + 1) := by
  obtain ⟨a, b, c⟩ := hl
  obtain ⟨d, e, f⟩ := hm
  unfold met at h
  cases z : (l.a * m.b - l.b * m.a == 0) with
  | true => rw [z] at h; cases h
  | false =>
    rw [z] at h
    cases h
    exact shortest_bt ((b.mul f).sub (c.mul e) (by omega) (by omega)) ((c.mul d).sub (a.mul f) (by omega) (by omega)) ((a.mul e).sub (b.mul d) (by omega) (by omega))
theorem two_bt : Bt 2 2 := by unfold Bt; decide
theorem amid_bt {n : Nat} {p q : Pt} (hp : p.Bt n) (hq : q.Bt n) : (amid p q).Bt (2 * n + 2) := by
  obtain ⟨a, b, c⟩ := hp
  obtain ⟨d, e, f⟩ := hq
  exact shortest_bt ((a.mul f).add (d.mul c) (by omega) (by omega)) ((b.mul f).add (e.mul c) (by omega) (by omega)) (((two_bt.mul c).mul f).mono (by omega))
end Ac
set_option Elab.async false
set_option linter.all false
set_option maxRecDepth 100000
set_option maxHeartbeats 2000000
namespace Ac
open PySem PySem.Spec PyProof.Rows L2 PySem.NumText
abbrev sg (z : Str) : List Nat := z.cps.toList
abbrev ofSg (l : List Nat) : Str := ⟨l.toArray⟩
theorem sg_inj {x y : Str} (h : sg x = sg y) : x = y := Str.ext' (Array.toList_inj.mp h)
theorem sg_of (l : List Nat) : sg (ofSg l) = l := rfl
theorem of_sg (z : Str) : ofSg (sg z) = z := sg_inj rfl
theorem sg_len (z : Str) : z.length = (sg z).length := by simp [sg, Str.length]
theorem eqv_str (a b : Str) : PyData.eqv (.str a) (.str b) = decide (sg a = sg b) := by
  have e : PyData.eqv (.str a) (.str b) = (a == b) := rfl
  rw [e]
  by_cases h : sg a = sg b
  · rw [sg_inj h, decide_eq_true rfl]; exact beq_self_eq_true b
  · rw [decide_eq_false h]
    exact beq_eq_false_iff_ne.mpr fun z => h (by rw [z])
def isD (c : Nat) : Bool := decide (48 ≤ c) && decide (c ≤ 57)
def figsOk (l : List Nat) : Bool := decide (1 ≤ l.length) && (decide (l.length ≤ 60) && (!(l.head? == some 48 && decide (1 < l.length)) && l.all isD))
def figsL (l : List Nat) : Option Nat := bif figsOk l then some (digitsVal l) else none
def wholeL : List Nat → Option Int
  | 45 :: r => (figsL r).bind fun n => if n = 0 then none else some (-(n : Int))
  | l => (figsL l).map fun n => (n : Int)
/-- what stands before the first s, and behind -/
def cut (s : Nat) : List Nat → Option (List Nat × List Nat)
  | [] => none
  | c :: r => if c = s then some ([], r) else (cut s r).map fun p => (c :: p.1, p.2)
def fracL (l : List Nat) : Option Fr := match cut 47 l with
  | none => (wholeL l).map fun t => ⟨t, 1⟩
  | some (a, b) => (wholeL a).bind fun t => (figsL b).bind fun n => if 2 ≤ n ∧ Int.gcd t n = 1 then some ⟨t, n⟩ else none
def pointL (l : List Nat) : Option Pt := match cut 44 l with
  | none => none
  | some (a, b) => (fracL a).bind fun f => (fracL b).map fun g => shortest (f.t * g.b) (g.t * f.b) (f.b * g.b)
theorem cut_none {s : Nat} : ∀ {l : List Nat}, cut s l = none → s ∉ l
  | [], _ => by simp
  | c :: r, h => by
    unfold cut at h
    split at h
    · cases h
    · rename_i hc
      have := cut_none (l := r) (by cases e : cut s r with
        | none => rfl
        | some p => rw [e] at h; cases h)
      simp [this, Ne.symm hc]
theorem cut_some {s : Nat} : ∀ {l a b : List Nat}, cut s l = some (a, b) → l = a ++ s :: b ∧ s ∉ a
  | [], _, _, h => by cases h
  | c :: r, a, b, h => by
    unfold cut at h
    split at h
    · rename_i hc
      cases h; subst hc; simp
    · rename_i hc
      cases e : cut s r with
      | none => rw [e] at h; cases h
      | some p =>
        rw [e] at h
        obtain ⟨p1, p2⟩ := p
        cases h
        obtain ⟨h1, h2⟩ := cut_some e
        exact ⟨by rw [h1]; rfl, by simp [h2, Ne.symm hc]⟩
theorem figs_digits {l : List Nat} {n : Nat} (h : figsL l = some n) : (∀ c ∈ l, 48 ≤ c ∧ c ≤ 57) ∧ 1 ≤ l.length ∧ l.length ≤ 60 ∧ n = digitsVal l ∧ (l.head? = some 48 → l.length = 1) := by
  unfold figsL at h
  cases e : figsOk l with
  | false => rw [e] at h; cases h
  | true =>
    rw [e] at h; cases h
    unfold figsOk at e
    simp only [Bool.and_eq_true, decide_eq_true_eq, Bool.not_eq_true', List.all_eq_true, isD] at e
    obtain ⟨h1, h2, h3, h4⟩ := e
    refine ⟨h4, h1, h2, rfl, fun hh => ?_⟩
    rw [hh] at h3
    simp at h3
    omega
theorem digits_lt : ∀ (l : List Nat), (∀ c ∈ l, 48 ≤ c ∧ c ≤ 57) → digitsVal l < 10 ^ l.length := by
  have gen : ∀ (l : List Nat) (a k : Nat), (∀ c ∈ l, 48 ≤ c ∧ c ≤ 57) → a < 10 ^ k → l.foldl (fun acc c => acc * 10 + (c - 48)) a < 10 ^ (k + l.length) := by
    intro l
    induction l with
    | nil => intro a k _ h; simpa using h
    | cons c r ih =>
      intro a k hd h
      have hc := hd c List.mem_cons_self
      have := ih (a * 10 + (c - 48)) (k + 1) (fun x hx => hd x (List.mem_cons_of_mem _ hx)) (by rw [Nat.pow_succ]; omega)
      rw [List.foldl_cons, List.length_cons]
      rw [show k + (r.length + 1) = k + 1 + r.length by omega]
      exact this
  intro l hd
  have := gen l 0 0 hd (by simp)
  simpa [digitsVal] using this
theorem figs_lt {l : List Nat} {n : Nat} (h : figsL l = some n) : n < 10 ^ 60 := by
  obtain ⟨h1, _, h2, rfl, _⟩ := figs_digits h
  exact Nat.lt_of_lt_of_le (digits_lt l h1) (Nat.pow_le_pow_right (by decide) h2)
theorem figs_zero {l : List Nat} (h : figsL l = some 0) : l = [48] := by
  obtain ⟨h1, h2, _, h3, h4⟩ := figs_digits h
  match l, h1, h2, h3, h4 with
  | c :: r, h1, _, h3, h4 =>
    have hc := h1 c List.mem_cons_self
    by_cases e : c = 48
    · subst e
      have := h4 rfl
      have : r = [] := by
        cases r with
        | nil => rfl
        | cons _ _ => simp at this
      rw [this]
    · exfalso
      have gen : ∀ (l : List Nat) (a : Nat), 0 < a → 0 < l.foldl (fun acc c => acc * 10 + (c - 48)) a := by
        intro l
        induction l with
        | nil => intro a h; exact h
        | cons c r ih => intro a h; exact ih _ (Nat.lt_of_lt_of_le (Nat.mul_pos h (by decide : 0 < 10)) (Nat.le_add_right _ _))
      have := gen r (0 * 10 + (c - 48)) (by omega)
      have h5 : digitsVal (c :: r) = r.foldl (fun acc c => acc * 10 + (c - 48)) (0 * 10 + (c - 48)) := rfl
      omega
theorem whole_lt {l : List Nat} {t : Int} (h : wholeL l = some t) : t.natAbs < 10 ^ 60 := by
  unfold wholeL at h
  split at h
  · cases e : figsL _ with
    | none => rw [e] at h; cases h
    | some n =>
      rw [e] at h
      have := figs_lt e
      simp only [Option.bind_some] at h
      split at h
      · cases h
      · cases h; omega
  · cases e : figsL l with
    | none => rw [e] at h; cases h
    | some n => rw [e] at h; have := figs_lt e; cases h; simpa using this
theorem frac_lt {l : List Nat} {f : Fr} (h : fracL l = some f) : f.t.natAbs < 10 ^ 60 ∧ 1 ≤ f.b ∧ f.b.natAbs < 10 ^ 60 := by
  unfold fracL at h
  split at h
  · cases e : wholeL l with
    | none => rw [e] at h; cases h
    | some t => rw [e] at h; cases h; exact ⟨whole_lt e, Int.le_refl 1, by show (1 : Int).natAbs < _; decide⟩
  · rename_i a b _
    cases e : wholeL a with
    | none => rw [e] at h; cases h
    | some t =>
      rw [e] at h
      cases e2 : figsL b with
      | none => rw [e2] at h; cases h
      | some n =>
        rw [e2] at h
        simp only [Option.bind_some] at h
        split at h
        · rename_i hh
          cases h
          exact ⟨whole_lt e, by show (1 : Int) ≤ n; omega, by show (n : Int).natAbs < _; have := figs_lt e2; simpa using this⟩
        · cases h
theorem ten60 : (10 : Nat) ^ 60 < 2 ^ 200 := by decide
theorem par_cut (s : Nat) (l : List Nat) : TL.par [s] [] l = cut s l := by
  cases h : cut s l with
  | none => exact TL.par_none1 (cut_none h)
  | some p =>
    obtain ⟨a, b⟩ := p
    obtain ⟨rfl, h2⟩ := cut_some h
    exact TL.par_part1 (S := []) h2
theorem spl_cut (s : Nat) (l : List Nat) : TL.spl [s] 0 [] l = match cut s l with
    | none => [l]
    | some p => p.1 :: TL.spl [s] 0 [] p.2 := by
  cases h : cut s l with
  | none => exact TL.spl_last1 (cut_none h)
  | some p =>
    obtain ⟨a, b⟩ := p
    obtain ⟨rfl, h2⟩ := cut_some h
    exact TL.spl_part1 (S := []) h2
theorem spl_pos (s : Nat) (l : List Nat) : 1 ≤ (TL.spl [s] 0 [] l).length := by
  rw [spl_cut]
  split <;> simp
end Ac
set_option Elab.async false
set_option linter.all false
set_option maxRecDepth 100000
set_option maxHeartbeats 2000000
namespace Ac
open PySem PySem.Spec PyProof.Rows L2
def Pt.d (p : Pt) : PyData := .tuple [.int p.x, .int p.y, .int p.w]
def Ln.d (p : Ln) : PyData := .tuple [.int p.a, .int p.b, .int p.c]
def Fr.d (p : Fr) : PyData := .tuple [.int p.t, .int p.b]
def Sg.d (s : Sg) : PyData := .tuple [s.p.d, s.q.d]
def Mt.d : Mt → PyData
  | .none => .none
  | .spot p => .tuple [.str "spot", p.d]
  | .part s => .tuple [.str "part", s.d]
def optD (o : Option Pt) : PyData := match o with
  | none => .none
  | some p => p.d
theorem eqv_int (a b : Int) : PyData.eqv (.int a) (.int b) = (a == b) := rfl
theorem eqv_pt (p q : Pt) : PyData.eqv p.d q.d = (p == q) := by
  show (p.x == q.x && (p.y == q.y && (p.w == q.w && true))) = _
  obtain ⟨a, b, c⟩ := p
  obtain ⟨d, e, f⟩ := q
  rw [Bool.eq_iff_iff]
  simp [Pt.mk.injEq]
theorem eqv_fr (p q : Fr) : PyData.eqv p.d q.d = (p == q) := by
  show (p.t == q.t && (p.b == q.b && true)) = _
  obtain ⟨a, b⟩ := p
  obtain ⟨d, e⟩ := q
  rw [Bool.eq_iff_iff]
  simp [Fr.mk.injEq]
theorem eqv_sg (p q : Sg) : PyData.eqv p.d q.d = (p == q) := by
  show (PyData.eqv p.p.d q.p.d && (PyData.eqv p.q.d q.q.d && true)) = _
  rw [eqv_pt, eqv_pt]
  obtain ⟨a, b⟩ := p
  obtain ⟨d, e⟩ := q
  rw [Bool.eq_iff_iff]
  simp [Sg.mk.injEq]
theorem Bt.cm {n m : Nat} {i j : Int} (h : Bt n i) (h' : Bt m j) (hs : n + m + 2 ≤ 100000000) : CMulX i j := mulx_ok h h' (by omega)
theorem Bt.dv {n : Nat} {i j : Int} (h0 : j ≠ 0) (h : Bt n j) (hn : n < 9000) : CDivZ i j := ⟨h0, Nat.lt_of_lt_of_le (PySem.Flt.log2_lt_of (Nat.succ_pos n) (h.mono (Nat.le_succ n))) (by omega)⟩
theorem cases_bif {c : Bool} {p q : Prop} (h1 : c = true → p) (h2 : c = false → q) : bif c then p else q := by
  cases c with
  | true => exact h1 rfl
  | false => exact h2 rfl
def g_divisor : GR := fun ds out => ∃ a b : Int, ds = [.int a, .int b] ∧ out = .ok (.dat (.int (Int.gcd a b)))
def g_sign_of : GR := fun ds out => ∃ a : Int, ds = [.int a] ∧ out = .ok (.dat (.int (sgn a)))
def m_divisor : MS := (mSeq (mSet 2 (mUp (mL fAbs [(mVar 0)])))
    (mSeq (mSet 3 (mUp (mL fAbs [(mVar 1)])))
    (mSeq (mWhile (mTst (m2 fGt (mVar 3) (mC (.int 0)))) (mSeq (mSet 4 (mUp (m2 fMod (mVar 2) (mVar 3))))
    (mSeq (mSet 2 (mUp (mVar 3)))
    (mSet 3 (mUp (mVar 4))))))
    (mRet (mUp (mVar 2))))))
def m_sign_of : MS := (mSeq (mIf (mTst (m2 fGt (mVar 0) (mC (.int 0)))) (mRet (mUp (mC (.int 1)))) mSkip)
    (mSeq (mIf (mTst (m2 fLt (mVar 0) (mC (.int 0)))) (mRet (mUp (m1 fNeg (mC (.int 1))))) mSkip)
    (mRet (mUp (mC (.int 0))))))
theorem ar_divisor : ∀ ds out, g_divisor ds out → ds.length = 2 := by rintro ds out ⟨a, b, rfl, _⟩; rfl
theorem ar_sign_of : ∀ ds out, g_sign_of ds out → ds.length = 1 := by rintro ds out ⟨a, rfl, _⟩; rfl
theorem run_sign_of : ∀ ds out, g_sign_of ds out → fnP m_sign_of 1 ds (fun o => o = out) := by
  rintro ds out ⟨a, rfl, rfl⟩
  show bif decide (0 < a) then _ else _
  refine cases_bif (fun h => ?_) fun h => ?_
  · have := of_decide_eq_true h
    show Out.ok (.dat (.int 1)) = _
    unfold sgn; rw [if_pos this]
  · have h := of_decide_eq_false h
    show bif decide (a < 0) then _ else _
    refine cases_bif (fun h2 => ?_) fun h2 => ?_
    · have := of_decide_eq_true h2
      show Out.ok (.dat (.int (-1))) = _
      unfold sgn; rw [if_neg h, if_pos this]
    · have := of_decide_eq_false h2
      show Out.ok (.dat (.int 0)) = _
      unfold sgn; rw [if_neg h, if_neg this]
theorem abs_if (a : Int) : (if a < 0 then -a else a) = (a.natAbs : Int) := by omega
theorem run_divisor : ∀ ds out, g_divisor ds out → fnP m_divisor 5 ds (fun o => o = out) := by
  rintro ds out ⟨a, b, rfl, rfl⟩
  refine ⟨fun n ρ => ∃ (x y : Nat) (z : Option EV), y = n ∧ ρ = [some (.dat (.int a)), some (.dat (.int b)), some (.dat (.int x)), some (.dat (.int y)), z] ∧ Nat.gcd x y = Int.gcd a b, ⟨b.natAbs, a.natAbs, b.natAbs, none, rfl, ?_, rfl⟩, ?_⟩
  · rw [← abs_if a, ← abs_if b]; rfl
  · rintro n ρ ⟨x, y, z, rfl, rfl, hg⟩
    show bif decide ((0 : Int) < y) then _ else _
    refine cases_bif (fun h => ?_) fun h => ?_
    · have h := of_decide_eq_true h
      refine ⟨by omega, ⟨x % y, Nat.mod_lt _ (by omega), y, x % y, some (.dat (.int ((x % y : Nat) : Int))), rfl, ?_, ?_⟩⟩
      · have e : (x : Int).fmod y = ((x % y : Nat) : Int) := by rw [Int.fmod_eq_emod_of_nonneg _ (by omega)]; rfl
        show [some (EV.dat (.int a)), some (.dat (.int b)), some (.dat (.int y)), some (.dat (.int ((x : Int).fmod y))), some (.dat (.int ((x : Int).fmod y)))] = _
        rw [e]
      · rw [← hg, Nat.gcd_comm y, ← Nat.gcd_rec, Nat.gcd_comm]
    · have h := of_decide_eq_false h
      have : y = 0 := by omega
      subst this
      show Out.ok (.dat (.int (x : Int))) = _
      rw [← hg, Nat.gcd_zero_right]
def g_lowest : GR := fun ds out => ∃ (n : Nat) (t b : Int), ds = [.int t, .int b] ∧ b ≠ 0 ∧ Bt n b ∧ n < 9000 ∧ out = .ok (.dat (lowest t b).d)
def m_lowest : MS := (mSeq (mSet 2 (mUp (mCall g_divisor [(mVar 0), (mVar 1)])))
    (mSeq (mIf (mTst (m2 fLt (mVar 1) (mC (.int 0)))) (mSet 2 (mUp (m2 fSub (mC (.int 0)) (mVar 2)))) mSkip)
    (mRet (mUp (mTup [(m2 fDiv (mVar 0) (mVar 2)), (m2 fDiv (mVar 1) (mVar 2))])))))
theorem ar_lowest : ∀ ds out, g_lowest ds out → ds.length = 2 := by rintro ds out ⟨n, a, b, rfl, _⟩; rfl
theorem run_lowest : ∀ ds out, g_lowest ds out → fnP m_lowest 3 ds (fun o => o = out) := by
  rintro ds out ⟨n, t, b, rfl, hb, hn, h9, rfl⟩
  have hd : CDivZ t (lowB t b) := (lowB_bt hb hn).dv (lowB_ne hb) h9
  have hd2 : CDivZ b (lowB t b) := hd
  refine ⟨_, ⟨t, b, rfl, rfl⟩, rfl, ?_⟩
  show bif decide (b < 0) then _ else _
  unfold lowest
  refine cases_bif (fun h => ?_) fun h => ?_
  · have e : lowB t b = 0 - (Int.gcd t b : Int) := if_pos (of_decide_eq_true h)
    rw [e] at hd hd2 ⊢
    exact ⟨hd, hd2, rfl⟩
  · have e : lowB t b = (Int.gcd t b : Int) := if_neg (of_decide_eq_false h)
    rw [e] at hd hd2 ⊢
    exact ⟨hd, hd2, rfl⟩
def g_under : GR := fun ds out => ∃ (n : Nat) (f g : Fr), ds = [f.d, g.d] ∧ n ≤ 400000 ∧ f.Bt n ∧ g.Bt n ∧ out = .ok (.dat (.bool (under f g)))
def m_under : MS := (mRet (mUp (m2 fLt (m2 fMul (m2 fIx (mVar 0) (mC (.int 0))) (m2 fIx (mVar 1) (mC (.int 1)))) (m2 fMul (m2 fIx (mVar 1) (mC (.int 0))) (m2 fIx (mVar 0) (mC (.int 1)))))))
theorem ar_under : ∀ ds out, g_under ds out → ds.length = 2 := by rintro ds out ⟨n, a, b, rfl, _⟩; rfl
theorem run_under : ∀ ds out, g_under ds out → fnP m_under 2 ds (fun o => o = out) := by
  rintro ds out ⟨n, f, g, rfl, hn, hf, hg, rfl⟩
  exact ⟨hf.1.cm hg.2 (by omega), hg.1.cm hf.2 (by omega), rfl⟩
def g_shortest : GR := fun ds out => ∃ (n : Nat) (x y w : Int), ds = [.int x, .int y, .int w] ∧ w ≠ 0 ∧ Bt n w ∧ n < 9000 ∧ out = .ok (.dat (shortest x y w).d)
def m_shortest : MS := (mSeq (mSet 3 (mUp (mCall g_divisor [(mCall g_divisor [(mVar 0), (mVar 1)]), (mVar 2)])))
    (mSeq (mIf (mTst (m2 fLt (mVar 2) (mC (.int 0)))) (mSet 3 (mUp (m2 fSub (mC (.int 0)) (mVar 3)))) mSkip)
    (mRet (mUp (mTup [(m2 fDiv (mVar 0) (mVar 3)), (m2 fDiv (mVar 1) (mVar 3)), (m2 fDiv (mVar 2) (mVar 3))])))))
theorem ar_shortest : ∀ ds out, g_shortest ds out → ds.length = 3 := by rintro ds out ⟨n, a, b, c, rfl, _⟩; rfl
theorem run_shortest : ∀ ds out, g_shortest ds out → fnP m_shortest 4 ds (fun o => o = out) := by
  rintro ds out ⟨n, x, y, w, rfl, hb, hn, h9, rfl⟩
  have hd : ∀ i, CDivZ i (shortB x y w) := fun i => (shortB_bt hb hn).dv (shortB_ne hb) h9
  refine ⟨_, ⟨x, y, rfl, rfl⟩, rfl, _, ⟨_, w, rfl, rfl⟩, rfl, ?_⟩
  show bif decide (w < 0) then _ else _
  unfold shortest
  refine cases_bif (fun h => ?_) fun h => ?_
  · have e : shortB x y w = 0 - (Int.gcd (Int.gcd x y) w : Int) := if_pos (of_decide_eq_true h)
    rw [e] at hd ⊢
    exact ⟨hd _, hd _, hd _, rfl⟩
  · have e : shortB x y w = (Int.gcd (Int.gcd x y) w : Int) := if_neg (of_decide_eq_false h)
    rw [e] at hd ⊢
    exact ⟨hd _, hd _, hd _, rfl⟩
def g_across : GR := fun ds out => ∃ (n : Nat) (p : Pt), ds = [p.d] ∧ p.w ≠ 0 ∧ Bt n p.w ∧ n < 9000 ∧ out = .ok (.dat (across p).d)
def g_up : GR := fun ds out => ∃ (n : Nat) (p : Pt), ds = [p.d] ∧ p.w ≠ 0 ∧ Bt n p.w ∧ n < 9000 ∧ out = .ok (.dat (upF p).d)
def m_across : MS := (mRet (mUp (mCall g_lowest [(m2 fIx (mVar 0) (mC (.int 0))), (m2 fIx (mVar 0) (mC (.int 2)))])))
def m_up : MS := (mRet (mUp (mCall g_lowest [(m2 fIx (mVar 0) (mC (.int 1))), (m2 fIx (mVar 0) (mC (.int 2)))])))
theorem ar_across : ∀ ds out, g_across ds out → ds.length = 1 := by rintro ds out ⟨n, a, rfl, _⟩; rfl
theorem ar_up : ∀ ds out, g_up ds out → ds.length = 1 := by rintro ds out ⟨n, a, rfl, _⟩; rfl
theorem run_across : ∀ ds out, g_across ds out → fnP m_across 1 ds (fun o => o = out) := by
  rintro ds out ⟨n, p, rfl, h0, hn, h9, rfl⟩
  exact ⟨_, ⟨n, p.x, p.w, rfl, h0, hn, h9, rfl⟩, rfl, rfl⟩
theorem run_up : ∀ ds out, g_up ds out → fnP m_up 1 ds (fun o => o = out) := by
  rintro ds out ⟨n, p, rfl, h0, hn, h9, rfl⟩
  exact ⟨_, ⟨n, p.y, p.w, rfl, h0, hn, h9, rfl⟩, rfl, rfl⟩
def g_before : GR := fun ds out => ∃ (n : Nat) (p q : Pt), ds = [p.d, q.d] ∧ n ≤ 400000 ∧ p.Bt n ∧ q.Bt n ∧ out = .ok (.dat (.bool (before p q)))
def m_before : MS := (mSeq (mSet 2 (mUp (m2 fMul (m2 fIx (mVar 0) (mC (.int 0))) (m2 fIx (mVar 1) (mC (.int 2))))))
    (mSeq (mSet 3 (mUp (m2 fMul (m2 fIx (mVar 1) (mC (.int 0))) (m2 fIx (mVar 0) (mC (.int 2))))))
    (mSeq (mIf (mTst (m2 fNe (mVar 2) (mVar 3))) (mRet (mUp (m2 fLt (mVar 2) (mVar 3)))) mSkip)
    (mRet (mUp (m2 fLt (m2 fMul (m2 fIx (mVar 0) (mC (.int 1))) (m2 fIx (mVar 1) (mC (.int 2)))) (m2 fMul (m2 fIx (mVar 1) (mC (.int 1))) (m2 fIx (mVar 0) (mC (.int 2))))))))))
theorem ar_before : ∀ ds out, g_before ds out → ds.length = 2 := by rintro ds out ⟨n, a, b, rfl, _⟩; rfl
theorem run_before : ∀ ds out, g_before ds out → fnP m_before 4 ds (fun o => o = out) := by
  rintro ds out ⟨n, p, q, rfl, hn, hp, hq, rfl⟩
  refine ⟨hp.1.cm hq.2.2 (by omega), hq.1.cm hp.2.2 (by omega), rfl, rfl, ?_⟩
  show bif !(p.x * q.w == q.x * p.w) then _ else _
  unfold before
  cases h : (!(p.x * q.w == q.x * p.w)) with
  | true => rfl
  | false => exact ⟨hp.2.1.cm hq.2.2 (by omega), hq.2.1.cm hp.2.2 (by omega), rfl⟩
def g_line_of : GR := fun ds out => ∃ (n : Nat) (p q : Pt), ds = [p.d, q.d] ∧ n ≤ 400000 ∧ p.Bt n ∧ q.Bt n ∧ out = .ok (.dat (lineOf p q).d)
def m_line_of : MS := (mSeq (mSet 2 (mUp (m2 fSub (m2 fMul (m2 fIx (mVar 0) (mC (.int 1))) (m2 fIx (mVar 1) (mC (.int 2)))) (m2 fMul (m2 fIx (mVar 0) (mC (.int 2))) (m2 fIx (mVar 1) (mC (.int 1)))))))
    (mSeq (mSet 3 (mUp (m2 fSub (m2 fMul (m2 fIx (mVar 0) (mC (.int 2))) (m2 fIx (mVar 1) (mC (.int 0)))) (m2 fMul (m2 fIx (mVar 0) (mC (.int 0))) (m2 fIx (mVar 1) (mC (.int 2)))))))
    (mSeq (mSet 4 (mUp (m2 fSub (m2 fMul (m2 fIx (mVar 0) (mC (.int 0))) (m2 fIx (mVar 1) (mC (.int 1)))) (m2 fMul (m2 fIx (mVar 0) (mC (.int 1))) (m2 fIx (mVar 1) (mC (.int 0)))))))
    (mRet (mUp (mTup [(mVar 2), (mVar 3), (mVar 4)]))))))
theorem ar_line_of : ∀ ds out, g_line_of ds out → ds.length = 2 := by rintro ds out ⟨n, a, b, rfl, _⟩; rfl
theorem run_line_of : ∀ ds out, g_line_of ds out → fnP m_line_of 5 ds (fun o => o = out) := by
  rintro ds out ⟨n, p, q, rfl, hn, ⟨a, b, c⟩, ⟨d, e, f⟩, rfl⟩
  exact ⟨b.cm f (by omega), c.cm e (by omega), c.cm d (by omega), a.cm f (by omega), a.cm e (by omega), b.cm d (by omega), rfl⟩
def g_side_of : GR := fun ds out => ∃ (n m : Nat) (l : Ln) (p : Pt), ds = [l.d, p.d] ∧ n + m + 2 ≤ 1000000 ∧ l.Bt n ∧ p.Bt m ∧ out = .ok (.dat (.int (sideOf l p)))
def m_side_of : MS := (mRet (mUp (mCall g_sign_of [(m2 fAdd (m2 fAdd (m2 fMul (m2 fIx (mVar 0) (mC (.int 0))) (m2 fIx (mVar 1) (mC (.int 0)))) (m2 fMul (m2 fIx (mVar 0) (mC (.int 1))) (m2 fIx (mVar 1) (mC (.int 1))))) (m2 fMul (m2 fIx (mVar 0) (mC (.int 2))) (m2 fIx (mVar 1) (mC (.int 2)))))])))
theorem ar_side_of : ∀ ds out, g_side_of ds out → ds.length = 2 := by rintro ds out ⟨n, m, a, b, rfl, _⟩; rfl
theorem run_side_of : ∀ ds out, g_side_of ds out → fnP m_side_of 2 ds (fun o => o = out) := by
  rintro ds out ⟨n, m, l, p, rfl, hn, ⟨a, b, c⟩, ⟨d, e, f⟩, rfl⟩
  exact ⟨a.cm d (by omega), b.cm e (by omega), c.cm f (by omega), _, ⟨_, rfl, rfl⟩, rfl, rfl⟩
def g_turn : GR := fun ds out => ∃ (n : Nat) (p q r : Pt), ds = [p.d, q.d, r.d] ∧ n ≤ 300000 ∧ p.Bt n ∧ q.Bt n ∧ r.Bt n ∧ out = .ok (.dat (.int (turn p q r)))
def m_turn : MS := (mRet (mUp (mCall g_side_of [(mCall g_line_of [(mVar 0), (mVar 1)]), (mVar 2)])))
theorem ar_turn : ∀ ds out, g_turn ds out → ds.length = 3 := by rintro ds out ⟨n, a, b, c, rfl, _⟩; rfl
theorem run_turn : ∀ ds out, g_turn ds out → fnP m_turn 3 ds (fun o => o = out) := by
  rintro ds out ⟨n, p, q, r, rfl, hn, hp, hq, hr, rfl⟩
  exact ⟨_, ⟨n, p, q, rfl, by omega, hp, hq, rfl⟩, rfl, _, ⟨2 * n + 1, n, _, r, rfl, by omega, lineOf_bt hp hq, hr, rfl⟩, rfl, rfl⟩
def g_met : GR := fun ds out => ∃ (n : Nat) (l m : Ln), ds = [l.d, m.d] ∧ n ≤ 4499 ∧ l.Bt n ∧ m.Bt n ∧ out = .ok (.dat (optD (met l m)))
def m_met : MS := (mSeq (mSet 2 (mUp (m2 fSub (m2 fMul (m2 fIx (mVar 0) (mC (.int 0))) (m2 fIx (mVar 1) (mC (.int 1)))) (m2 fMul (m2 fIx (mVar 0) (mC (.int 1))) (m2 fIx (mVar 1) (mC (.int 0)))))))
    (mSeq (mIf (mTst (m2 fEq (mVar 2) (mC (.int 0)))) (mRet (mUp (mC .none))) mSkip)
    (mSeq (mSet 3 (mUp (m2 fSub (m2 fMul (m2 fIx (mVar 0) (mC (.int 1))) (m2 fIx (mVar 1) (mC (.int 2)))) (m2 fMul (m2 fIx (mVar 0) (mC (.int 2))) (m2 fIx (mVar 1) (mC (.int 1)))))))
    (mSeq (mSet 4 (mUp (m2 fSub (m2 fMul (m2 fIx (mVar 0) (mC (.int 2))) (m2 fIx (mVar 1) (mC (.int 0)))) (m2 fMul (m2 fIx (mVar 0) (mC (.int 0))) (m2 fIx (mVar 1) (mC (.int 2)))))))
    (mRet (mUp (mCall g_shortest [(mVar 3), (mVar 4), (mVar 2)])))))))
theorem ar_met : ∀ ds out, g_met ds out → ds.length = 2 := by rintro ds out ⟨n, a, b, rfl, _⟩; rfl
theorem run_met : ∀ ds out, g_met ds out → fnP m_met 5 ds (fun o => o = out) := by
  rintro ds out ⟨n, l, m, rfl, hn, ⟨a, b, c⟩, ⟨d, e, f⟩, rfl⟩
  refine ⟨a.cm e (by omega), b.cm d (by omega), rfl, rfl, ?_⟩
  show bif l.a * m.b - l.b * m.a == 0 then _ else _
  unfold met
  cases h : (l.a * m.b - l.b * m.a == 0) with
  | true => rfl
  | false =>
    refine ⟨b.cm f (by omega), c.cm e (by omega), c.cm d (by omega), a.cm f (by omega), _, ⟨2 * n + 1, _, _, _, rfl, ?_, (a.mul e).sub (b.mul d) (by omega) (by omega), by omega, rfl⟩, rfl, rfl⟩
    intro z
    rw [z] at h
    cases h
def g_amid : GR := fun ds out => ∃ (n : Nat) (p q : Pt), ds = [p.d, q.d] ∧ n ≤ 4498 ∧ p.Bt n ∧ q.Bt n ∧ p.w ≠ 0 ∧ q.w ≠ 0 ∧ out = .ok (.dat (amid p q).d)
def m_amid : MS := (mSeq (mSet 2 (mUp (m2 fAdd (m2 fMul (m2 fIx (mVar 0) (mC (.int 0))) (m2 fIx (mVar 1) (mC (.int 2)))) (m2 fMul (m2 fIx (mVar 1) (mC (.int 0))) (m2 fIx (mVar 0) (mC (.int 2)))))))
    (mSeq (mSet 3 (mUp (m2 fAdd (m2 fMul (m2 fIx (mVar 0) (mC (.int 1))) (m2 fIx (mVar 1) (mC (.int 2)))) (m2 fMul (m2 fIx (mVar 1) (mC (.int 1))) (m2 fIx (mVar 0) (mC (.int 2)))))))
    (mRet (mUp (mCall g_shortest [(mVar 2), (mVar 3), (m2 fMul (m2 fMul (mC (.int 2)) (m2 fIx (mVar 0) (mC (.int 2)))) (m2 fIx (mVar 1) (mC (.int 2))))])))))
theorem ar_amid : ∀ ds out, g_amid ds out → ds.length = 2 := by rintro ds out ⟨n, a, b, rfl, _⟩; rfl
theorem run_amid : ∀ ds out, g_amid ds out → fnP m_amid 4 ds (fun o => o = out) := by
  rintro ds out ⟨n, p, q, rfl, hn, ⟨a, b, c⟩, ⟨d, e, f⟩, hp, hq, rfl⟩
  refine ⟨a.cm f (by omega), d.cm c (by omega), b.cm f (by omega), e.cm c (by omega), two_bt.cm c (by omega), (two_bt.mul c).cm f (by omega), _, ⟨2 * n + 2, _, _, _, rfl, ?_, ((two_bt.mul c).mul f).mono (by omega), by omega, rfl⟩, rfl, rfl⟩
  exact Int.mul_ne_zero (Int.mul_ne_zero (by decide) hp) hq
def g_stretch : GR := fun ds out => ∃ (n : Nat) (p q : Pt), ds = [p.d, q.d] ∧ n ≤ 400000 ∧ p.Bt n ∧ q.Bt n ∧ p ≠ q ∧ out = .ok (.dat (stretch p q).d)
def m_stretch : MS := (mSeq (mIf (mTst (m2 fEq (mVar 0) (mVar 1))) (mRaise "NoStretch") mSkip)
    (mSeq (mIf (mTru (mCall g_before [(mVar 0), (mVar 1)])) (mRet (mUp (mTup [(mVar 0), (mVar 1)]))) mSkip)
    (mRet (mUp (mTup [(mVar 1), (mVar 0)])))))
theorem ar_stretch : ∀ ds out, g_stretch ds out → ds.length = 2 := by rintro ds out ⟨n, a, b, rfl, _⟩; rfl
theorem run_stretch : ∀ ds out, g_stretch ds out → fnP m_stretch 2 ds (fun o => o = out) := by
  rintro ds out ⟨n, p, q, rfl, hn, hp, hq, hne, rfl⟩
  refine ⟨rfl, rfl, ?_⟩
  show bif PyData.eqv p.d q.d then _ else _
  have e : PyData.eqv p.d q.d = false := by rw [eqv_pt]; simp [hne]
  rw [e]
  refine ⟨_, ⟨n, p, q, rfl, hn, hp, hq, rfl⟩, rfl, ?_⟩
  show bif before p q then _ else _
  unfold stretch
  cases before p q <;> rfl
def g_lies_on : GR := fun ds out => ∃ (n : Nat) (p : Pt) (s : Sg), ds = [p.d, s.d] ∧ n ≤ 300000 ∧ p.Bt n ∧ s.Bt n ∧ out = .ok (.dat (.bool (liesOn p s)))
def m_lies_on : MS := (mSeq (mIf (mOr (mTst (m2 fEq (mVar 0) (m2 fIx (mVar 1) (mC (.int 0))))) (mTst (m2 fEq (mVar 0) (m2 fIx (mVar 1) (mC (.int 1)))))) (mRet (mUp (mC (.bool true)))) mSkip)
    (mSeq (mIf (mOr (mNot (mTru (mCall g_before [(m2 fIx (mVar 1) (mC (.int 0))), (mVar 0)]))) (mNot (mTru (mCall g_before [(mVar 0), (m2 fIx (mVar 1) (mC (.int 1)))])))) (mRet (mUp (mC (.bool false)))) mSkip)
    (mRet (mUp (m2 fEq (mCall g_turn [(m2 fIx (mVar 1) (mC (.int 0))), (m2 fIx (mVar 1) (mC (.int 1))), (mVar 0)]) (mC (.int 0)))))))
theorem ar_lies_on : ∀ ds out, g_lies_on ds out → ds.length = 2 := by rintro ds out ⟨n, a, b, rfl, _⟩; rfl
theorem run_lies_on : ∀ ds out, g_lies_on ds out → fnP m_lies_on 2 ds (fun o => o = out) := by
  rintro ds out ⟨n, p, s, rfl, hn, hp, ⟨h1, h2⟩, rfl⟩
  refine ⟨rfl, rfl, ?_⟩
  show bif PyData.eqv p.d s.p.d then _ else _
  unfold liesOn
  rw [eqv_pt]
  cases e1 : (p == s.p) with
  | true => rfl
  | false =>
    refine ⟨rfl, rfl, ?_⟩
    show bif PyData.eqv p.d s.q.d then _ else _
    rw [eqv_pt]
    cases e2 : (p == s.q) with
    | true => rfl
    | false =>
      refine ⟨_, ⟨n, s.p, p, rfl, by omega, h1, hp, rfl⟩, rfl, ?_⟩
      show bif !before s.p p then _ else _
      cases e3 : before s.p p with
      | false => rfl
      | true =>
        refine ⟨_, ⟨n, p, s.q, rfl, by omega, hp, h2, rfl⟩, rfl, ?_⟩
        show bif !before p s.q then _ else _
        cases e4 : before p s.q with
        | false => rfl
        | true => exact ⟨_, ⟨n, s.p, s.q, p, rfl, hn, h1, h2, hp, rfl⟩, rfl, rfl, rfl, rfl⟩
def g_shared : GR := fun ds out => ∃ (n : Nat) (s t : Sg), ds = [s.d, t.d] ∧ n ≤ 400000 ∧ s.Bt n ∧ t.Bt n ∧ out = .ok (.dat (shared s t).d)
def m_shared : MS := (mSeq (mSet 2 (mUp (m2 fIx (mVar 0) (mC (.int 0)))))
    (mSeq (mIf (mTru (mCall g_before [(mVar 2), (m2 fIx (mVar 1) (mC (.int 0)))])) (mSet 2 (mUp (m2 fIx (mVar 1) (mC (.int 0))))) mSkip)
    (mSeq (mSet 3 (mUp (m2 fIx (mVar 0) (mC (.int 1)))))
    (mSeq (mIf (mTru (mCall g_before [(m2 fIx (mVar 1) (mC (.int 1))), (mVar 3)])) (mSet 3 (mUp (m2 fIx (mVar 1) (mC (.int 1))))) mSkip)
    (mSeq (mIf (mTst (m2 fEq (mVar 2) (mVar 3))) (mRet (mUp (mTup [(mC (.str "spot")), (mVar 2)]))) mSkip)
    (mSeq (mIf (mTru (mCall g_before [(mVar 2), (mVar 3)])) (mRet (mUp (mTup [(mC (.str "part")), (mTup [(mVar 2), (mVar 3)])]))) mSkip)
    (mRet (mUp (mC .none)))))))))
theorem ar_shared : ∀ ds out, g_shared ds out → ds.length = 2 := by rintro ds out ⟨n, a, b, rfl, _⟩; rfl
theorem run_shared : ∀ ds out, g_shared ds out → fnP m_shared 4 ds (fun o => o = out) := by
  rintro ds out ⟨n, s, t, rfl, hn, ⟨h1, h2⟩, ⟨h3, h4⟩, rfl⟩
  have last : ∀ low high : Pt, low.Bt n → high.Bt n → (SeqAt.shaped low.d = true ∧ SeqAt.shaped high.d = true ∧ bif PyData.eqv low.d high.d then Out.ok (.dat (.tuple [.str "spot", low.d])) = Out.ok (.dat (bif low == high then Mt.spot low else bif before low high then .part ⟨low, high⟩ else .none).d) else
      ∃ out, g_before [low.d, high.d] out ∧ (match out with
      | .ok ev => (true || tightEV ev) = true ∧ kOpn (rvEv ev) fun r => kLook [some (.dat s.d), some (.dat t.d), some (.dat low.d), some (.dat high.d)] r fun e => kTru e fun b => bif b then Out.ok (.dat (.tuple [.str "part", .tuple [low.d, high.d]])) = Out.ok (.dat (bif low == high then Mt.spot low else bif before low high then .part ⟨low, high⟩ else .none).d) else Out.ok (.dat .none) = Out.ok (.dat (bif low == high then Mt.spot low else bif before low high then .part ⟨low, high⟩ else .none).d)
      | .exc c => Out.exc c = Out.ok (.dat (bif low == high then Mt.spot low else bif before low high then .part ⟨low, high⟩ else .none).d))) := by
    intro low high hl hh
    refine ⟨rfl, rfl, ?_⟩
    rw [eqv_pt]
    cases e : (low == high) with
    | true => rfl
    | false =>
      refine ⟨_, ⟨n, low, high, rfl, hn, hl, hh, rfl⟩, rfl, ?_⟩
      show bif before low high then _ else _
      cases before low high <;> rfl
  refine ⟨_, ⟨n, s.p, t.p, rfl, hn, h1, h3, rfl⟩, rfl, ?_⟩
  show bif before s.p t.p then _ else _
  unfold shared
  cases before s.p t.p with
  | true =>
    refine ⟨_, ⟨n, t.q, s.q, rfl, hn, h4, h2, rfl⟩, rfl, ?_⟩
    show bif before t.q s.q then _ else _
    cases before t.q s.q with
    | true => exact last t.p t.q h3 h4
    | false => exact last t.p s.q h3 h2
  | false =>
    refine ⟨_, ⟨n, t.q, s.q, rfl, hn, h4, h2, rfl⟩, rfl, ?_⟩
    show bif before t.q s.q then _ else _
    cases before t.q s.q with
    | true => exact last s.p t.q h1 h4
    | false => exact last s.p s.q h1 h2
def g_meet : GR := fun ds out => ∃ (n : Nat) (s t : Sg), ds = [s.d, t.d] ∧ n ≤ 2249 ∧ s.Bt n ∧ t.Bt n ∧ out = .ok (.dat (meet s t).d)
def m_meet : MS := (mSeq (mSet 2 (mUp (mCall g_line_of [(m2 fIx (mVar 0) (mC (.int 0))), (m2 fIx (mVar 0) (mC (.int 1)))])))
    (mSeq (mIf (mAnd (mTst (m2 fEq (mCall g_side_of [(mVar 2), (m2 fIx (mVar 1) (mC (.int 0)))]) (mC (.int 0)))) (mTst (m2 fEq (mCall g_side_of [(mVar 2), (m2 fIx (mVar 1) (mC (.int 1)))]) (mC (.int 0))))) (mRet (mUp (mCall g_shared [(mVar 0), (mVar 1)]))) mSkip)
    (mSeq (mSet 3 (mUp (mCall g_met [(mVar 2), (mCall g_line_of [(m2 fIx (mVar 1) (mC (.int 0))), (m2 fIx (mVar 1) (mC (.int 1)))])])))
    (mSeq (mIf (mOr (mTst (m2 (fIsN false) (mVar 3) (mC .none))) (mOr (mNot (mTru (mCall g_lies_on [(mVar 3), (mVar 0)]))) (mNot (mTru (mCall g_lies_on [(mVar 3), (mVar 1)]))))) (mRet (mUp (mC .none))) mSkip)
    (mRet (mUp (mTup [(mC (.str "spot")), (mVar 3)])))))))
theorem ar_meet : ∀ ds out, g_meet ds out → ds.length = 2 := by rintro ds out ⟨n, a, b, rfl, _⟩; rfl
theorem run_meet : ∀ ds out, g_meet ds out → fnP m_meet 4 ds (fun o => o = out) := by
  rintro ds out ⟨n, s, t, rfl, hn, ⟨h1, h2⟩, ⟨h3, h4⟩, rfl⟩
  have hl := lineOf_bt h1 h2
  have hl2 := lineOf_bt h3 h4
  have rest : ∀ out : Out, out = .ok (.dat (match met (lineOf s.p s.q) (lineOf t.p t.q) with
    | none => Mt.none
    | some p => bif !liesOn p s || !liesOn p t then .none else .spot p).d) → (mSeq (mSet 3 (mUp (mCall g_met [(mVar 2), (mCall g_line_of [(m2 fIx (mVar 1) (mC (.int 0))), (m2 fIx (mVar 1) (mC (.int 1)))])])))
    (mSeq (mIf (mOr (mTst (m2 (fIsN false) (mVar 3) (mC .none))) (mOr (mNot (mTru (mCall g_lies_on [(mVar 3), (mVar 0)]))) (mNot (mTru (mCall g_lies_on [(mVar 3), (mVar 1)]))))) (mRet (mUp (mC .none))) mSkip)
    (mRet (mUp (mTup [(mC (.str "spot")), (mVar 3)]))))) [some (.dat s.d), some (.dat t.d), some (.dat (lineOf s.p s.q).d), none]
      ⟨fun _ => Out.ok (.dat .none) = out, fun rv ρ => kRt rv ρ fun ev => Out.ok ev = out, fun _ => False, fun _ => False, fun c _ => Out.exc c = out⟩ := by
    intro out hout
    refine ⟨_, ⟨n, t.p, t.q, rfl, by omega, h3, h4, rfl⟩, rfl, _, ⟨2 * n + 1, _, _, rfl, by omega, hl, hl2, rfl⟩, rfl, ?_⟩
    cases hm : met (lineOf s.p s.q) (lineOf t.p t.q) with
    | none =>
      rw [hm] at hout
      subst hout
      exact ⟨rfl, rfl⟩
    | some p =>
      rw [hm] at hout
      have hout : out = .ok (.dat (bif !liesOn p s || !liesOn p t then Mt.none else .spot p).d) := hout
      subst hout
      have hp : p.Bt (2 * (2 * n + 1) + 1) := met_bt hl hl2 hm
      refine ⟨rfl, ?_⟩
      refine ⟨_, ⟨2 * (2 * n + 1) + 1, p, s, rfl, by omega, hp, ⟨h1.mono (by omega), h2.mono (by omega)⟩, rfl⟩, rfl, ?_⟩
      show bif !liesOn p s then _ else _
      cases liesOn p s with
      | false => exact rfl
      | true =>
        refine ⟨_, ⟨2 * (2 * n + 1) + 1, p, t, rfl, by omega, hp, ⟨h3.mono (by omega), h4.mono (by omega)⟩, rfl⟩, rfl, ?_⟩
        show bif !liesOn p t then _ else _
        cases liesOn p t <;> exact rfl
  refine ⟨_, ⟨n, s.p, s.q, rfl, by omega, h1, h2, rfl⟩, rfl, _, ⟨2 * n + 1, n, _, t.p, rfl, by omega, hl, h3, rfl⟩, rfl, rfl, rfl, ?_⟩
  show bif sideOf (lineOf s.p s.q) t.p == 0 then _ else _
  unfold meet
  cases sideOf (lineOf s.p s.q) t.p == 0 with
  | false => exact rest _ rfl
  | true =>
    refine ⟨_, ⟨2 * n + 1, n, _, t.q, rfl, by omega, hl, h4, rfl⟩, rfl, rfl, rfl, ?_⟩
    show bif sideOf (lineOf s.p s.q) t.q == 0 then _ else _
    cases sideOf (lineOf s.p s.q) t.q == 0 with
    | false => exact rest _ rfl
    | true => exact ⟨_, ⟨n, s, t, rfl, by omega, ⟨h1, h2⟩, ⟨h3, h4⟩, rfl⟩, rfl, rfl⟩
end Ac
set_option Elab.async false
set_option linter.all false
set_option maxRecDepth 100000
set_option maxHeartbeats 2000000
namespace Ac
open PySem PySem.Spec PyProof.Rows L2 PySem.NumText
def g_is_whole : GR := fun ds out => ∃ i : Int, ds = [.int i] ∧ out = .ok (.dat (.bool true))
def g_fraction : GR := fun ds out => ∃ (n : Nat) (t b : Int), ds = [.int t, .int b] ∧ b ≠ 0 ∧ Bt n b ∧ n < 9000 ∧ out = .ok (.dat (lowest t b).d)
def g_point : GR := fun ds out => ∃ (n : Nat) (x y w : Int), ds = [.int x, .int y, .int w] ∧ w ≠ 0 ∧ Bt n w ∧ n < 9000 ∧ out = .ok (.dat (shortest x y w).d)
def noText {α : Type} (o : Option α) (f : α → PyData) : Out := match o with
  | some n => .ok (.dat (f n))
  | none => .exc "NoText"
def g_figures_of : GR := fun ds out => ∃ z : Str, ds = [.str z] ∧ z.length ≤ sizeLine ∧ out = noText (figsL (sg z)) fun n => .int n
def g_whole_of : GR := fun ds out => ∃ z : Str, ds = [.str z] ∧ z.length ≤ sizeLine ∧ out = noText (wholeL (sg z)) .int
def g_read_fraction : GR := fun ds out => ∃ z : Str, ds = [.str z] ∧ z.length ≤ sizeLine ∧ out = noText (fracL (sg z)) Fr.d
/-- what is no text, too -/
def g_read_point : GR := fun ds out => (∃ z : Str, ds = [.str z] ∧ z.length ≤ sizeLine ∧ out = noText (pointL (sg z)) Pt.d) ∨ ((ds = [.none] ∨ ∃ i, ds = [.int i]) ∧ out = .exc "NoText")
def m_is_whole : MS := (mRet (mUp (mAndV (m1 (fIsi "int") (mVar 0)) (mNotV (m1 (fIsi "bool") (mVar 0))))))
def m_fraction : MS := (mSeq (mIf (mOr (mNot (mTru (mCall g_is_whole [(mVar 0)]))) (mOr (mNot (mTru (mCall g_is_whole [(mVar 1)]))) (mTst (m2 fEq (mVar 1) (mC (.int 0)))))) (mRaise "NoNumber") mSkip)
    (mRet (mUp (mCall g_lowest [(mVar 0), (mVar 1)]))))
def m_point : MS := (mSeq (mIf (mOr (mNot (mTru (mCall g_is_whole [(mVar 0)]))) (mOr (mNot (mTru (mCall g_is_whole [(mVar 1)]))) (mOr (mNot (mTru (mCall g_is_whole [(mVar 2)]))) (mTst (m2 fEq (mVar 2) (mC (.int 0))))))) (mRaise "NoPoint") mSkip)
    (mRet (mUp (mCall g_shortest [(mVar 0), (mVar 1), (mVar 2)]))))
def m_figures_of : MS := (mSeq (mIf (mOr (mNot (mTst (mCh fLe fLe (mC (.int 1)) (mL fLen [(mVar 0)]) (mC (.int 60))))) (mAnd (mTst (m2 fEq (m2 fIx (mVar 0) (mC (.int 0))) (mC (.str "0")))) (mTst (m2 fNe (mVar 0) (mC (.str "0")))))) (mRaise "NoText") mSkip)
    (mSeq (mFor (miStr (mVar 0)) (gNm 1) (mIf (mTst (m2 (fInS true) (mVar 1) (mC (.str "0123456789")))) (mRaise "NoText") mSkip))
    (mRet (mUp (mL fIntS [(mVar 0)])))))
def m_whole_of : MS := (mSeq (mIf (mTst (m2 fNe (mSl (mVar 0) mNo (mSo (mC (.int 1)))) (mC (.str "-")))) (mRet (mUp (mCall g_figures_of [(mVar 0)]))) mSkip)
    (mSeq (mIf (mTst (m2 fEq (mVar 0) (mC (.str "-0")))) (mRaise "NoText") mSkip)
    (mRet (mUp (m2 fSub (mC (.int 0)) (mCall g_figures_of [(mSl (mVar 0) (mSo (mC (.int 1))) mNo)]))))))
def m_read_fraction : MS := (mSeq (mAsg (gTp [(gNm 1), (gNm 2), (gNm 3)]) (mUp (mM1 fPart (mVar 0) (mC (.str "/")))))
    (mSeq (mIf (mTst (m2 fEq (mVar 2) (mC (.str "")))) (mRet (mUp (mTup [(mCall g_whole_of [(mVar 1)]), (mC (.int 1))]))) mSkip)
    (mSeq (mSet 4 (mUp (mTup [(mCall g_whole_of [(mVar 1)]), (mCall g_figures_of [(mVar 3)])])))
    (mSeq (mIf (mOr (mTst (m2 fLt (m2 fIx (mVar 4) (mC (.int 1))) (mC (.int 2)))) (mTst (m2 fNe (mCall g_fraction [(m2 fIx (mVar 4) (mC (.int 0))), (m2 fIx (mVar 4) (mC (.int 1)))]) (mVar 4)))) (mRaise "NoText") mSkip)
    (mRet (mUp (mVar 4)))))))
def m_read_point : MS := (mSeq (mIf (mNot (mTru (m1 (fIsi "str") (mVar 0)))) (mRaise "NoText") mSkip)
    (mSeq (mAsg (gTp [(gNm 1), (gNm 2), (gNm 3)]) (mUp (mM1 fPart (mVar 0) (mC (.str ",")))))
    (mSeq (mIf (mTst (m2 fEq (mVar 2) (mC (.str "")))) (mRaise "NoText") mSkip)
    (mSeq (mSet 4 (mUp (mCall g_read_fraction [(mVar 1)])))
    (mSeq (mSet 5 (mUp (mCall g_read_fraction [(mVar 3)])))
    (mRet (mUp (mCall g_point [(m2 fMul (m2 fIx (mVar 4) (mC (.int 0))) (m2 fIx (mVar 5) (mC (.int 1)))), (m2 fMul (m2 fIx (mVar 5) (mC (.int 0))) (m2 fIx (mVar 4) (mC (.int 1)))), (m2 fMul (m2 fIx (mVar 4) (mC (.int 1))) (m2 fIx (mVar 5) (mC (.int 1))))]))))))))
theorem ar_is_whole : ∀ ds out, g_is_whole ds out → ds.length = 1 := by rintro ds out ⟨i, rfl, _⟩; rfl
theorem ar_fraction : ∀ ds out, g_fraction ds out → ds.length = 2 := by rintro ds out ⟨n, t, b, rfl, _⟩; rfl
theorem ar_point : ∀ ds out, g_point ds out → ds.length = 3 := by rintro ds out ⟨n, x, y, w, rfl, _⟩; rfl
theorem ar_figures_of : ∀ ds out, g_figures_of ds out → ds.length = 1 := by rintro ds out ⟨z, rfl, _⟩; rfl
theorem ar_whole_of : ∀ ds out, g_whole_of ds out → ds.length = 1 := by rintro ds out ⟨z, rfl, _⟩; rfl
theorem ar_read_fraction : ∀ ds out, g_read_fraction ds out → ds.length = 1 := by rintro ds out ⟨z, rfl, _⟩; rfl
theorem ar_read_point : ∀ ds out, g_read_point ds out → ds.length = 1 := by rintro ds out (⟨z, rfl, _⟩ | ⟨rfl | ⟨i, rfl⟩, _⟩) <;> rfl
theorem run_is_whole : ∀ ds out, g_is_whole ds out → fnP m_is_whole 1 ds (fun o => o = out) := by
  rintro ds out ⟨i, rfl, rfl⟩
  exact rfl
theorem run_fraction : ∀ ds out, g_fraction ds out → fnP m_fraction 2 ds (fun o => o = out) := by
  rintro ds out ⟨n, t, b, rfl, hb, hn, h9, rfl⟩
  refine ⟨_, ⟨t, rfl, rfl⟩, rfl, ?_⟩
  refine ⟨_, ⟨b, rfl, rfl⟩, rfl, ?_⟩
  refine ⟨rfl, rfl, ?_⟩
  show bif b == 0 then _ else _
  rw [beq_eq_false_iff_ne.mpr hb]
  exact ⟨_, ⟨n, t, b, rfl, hb, hn, h9, rfl⟩, rfl, rfl⟩
theorem run_point : ∀ ds out, g_point ds out → fnP m_point 3 ds (fun o => o = out) := by
  rintro ds out ⟨n, x, y, w, rfl, hb, hn, h9, rfl⟩
  refine ⟨_, ⟨x, rfl, rfl⟩, rfl, ?_⟩
  refine ⟨_, ⟨y, rfl, rfl⟩, rfl, ?_⟩
  refine ⟨_, ⟨w, rfl, rfl⟩, rfl, ?_⟩
  refine ⟨rfl, rfl, ?_⟩
  show bif w == 0 then _ else _
  rw [beq_eq_false_iff_ne.mpr hb]
  exact ⟨_, ⟨n, x, y, w, rfl, hb, hn, h9, rfl⟩, rfl, rfl⟩
theorem shs (z y : Str) : shA (EB.dat (.str z)) (EB.dat (.str y)) = true := rfl
theorem eqv_c0 (c : Nat) : PyData.eqv (.str ⟨#[c]⟩) (.str ("0" : Str)) = decide (c = 48) := by
  rw [eqv_str, show sg ("0" : Str) = [48] by decide +kernel]
  show decide ([c] = [48]) = _
  rw [Bool.eq_iff_iff]; simp
theorem eqv_z0 (z : Str) : PyData.eqv (.str z) (.str ("0" : Str)) = decide (sg z = [48]) := by
  rw [eqv_str, show sg ("0" : Str) = [48] by decide +kernel]
theorem fig_in (c : Nat) : decide (c ∈ sg ("0123456789" : Str)) = isD c := by
  rw [show sg ("0123456789" : Str) = [48, 49, 50, 51, 52, 53, 54, 55, 56, 57] by decide +kernel, Bool.eq_iff_iff]
  simp only [isD, decide_eq_true_eq, Bool.and_eq_true, List.mem_cons, List.not_mem_nil, or_false]
  omega
theorem atI0 {l : List Nat} {c : Nat} {r : List Nat} (h : l = c :: r) : atI l 0 = some c := by subst h; simp [atI, ixN]
theorem figs_false {l : List Nat} (h : figsOk l = false) : figsL l = none := by unfold figsL; rw [h]; rfl
theorem figs_true {l : List Nat} (h : figsOk l = true) : figsL l = some (digitsVal l) := by unfold figsL; rw [h]; rfl
/-- int(text), a text of figures -/
theorem figs_int {z : Str} (h : figsOk (sg z) = true) : PySem.intText? z = some ((digitsVal (sg z) : Nat) : Int) ∧ z.length ≤ 640 := by
  obtain ⟨h1, h2, h3, _, _⟩ := figs_digits (figs_true h)
  refine ⟨intText_digits h1 (fun e => ?_) (by rw [sg_len]; omega), by rw [sg_len]; omega⟩
  rw [show sg z = [] from e] at h2; simp at h2
/-- the loop over the signs: stops at the first that is no figure -/
theorem sgns_get {z : Str} {k : Nat} {x : PyData} (h : (sgns z)[k]? = some x) : ∃ c, (sg z)[k]? = some c ∧ x = .str ⟨#[c]⟩ := by
  unfold sgns at h
  rw [List.getElem?_map] at h
  cases e : z.cps.toList[k]? with
  | none => rw [e] at h; cases h
  | some c => rw [e] at h; cases h; exact ⟨c, rfl, rfl⟩
theorem run_figures_of : ∀ ds out, g_figures_of ds out → fnP m_figures_of 2 ds (fun o => o = out) := by
  rintro ds out ⟨z, rfl, hz, rfl⟩
  have hl : (z.length : Int) = ((sg z).length : Nat) := by rw [sg_len]
  -- behind the first test
  have rest : (figsOk (sg z) = (sg z).all isD) → fnP (mSeq (mFor (miStr (mVar 0)) (gNm 1) (mIf (mTst (m2 (fInS true) (mVar 1) (mC (.str "0123456789")))) (mRaise "NoText") mSkip)) (mRet (mUp (mL fIntS [(mVar 0)])))) 2 [.str z] (fun o => o = noText (figsL (sg z)) fun n => .int n) := by
    intro ho
    refine ⟨fun k ρ => ρ[0]? = some (some (.dat (.str z))) ∧ ρ.length = 2 ∧ ∀ j, j < k → ∀ c, (sg z)[j]? = some c → isD c = true, ⟨rfl, rfl, fun j h => absurd h (Nat.not_lt_zero _)⟩, ?_, ?_⟩
    · rintro k x ρ hx ⟨h1, h2, h3⟩
      obtain ⟨c, hc, rfl⟩ := sgns_get hx
      match ρ, h1, h2 with
      | [_, o], h1, _ =>
        cases h1
        refine ⟨c, _, rfl, rfl, ?_⟩
        show bif xor true (decide (c ∈ sg ("0123456789" : Str))) then _ else _
        rw [fig_in]
        cases hd : isD c with
        | true => exact ⟨rfl, rfl, fun j hj c' hc' => by
            rcases Nat.lt_succ_iff_lt_or_eq.mp hj with h | h
            · exact h3 j h c' hc'
            · subst h; rw [hc] at hc'; cases hc'; exact hd⟩
        | false =>
          show Out.exc "NoText" = _
          rw [figs_false]; · rfl
          rw [ho, List.all_eq_false]
          exact ⟨c, List.mem_of_getElem? hc, by rw [hd]; exact Bool.false_ne_true⟩
    · rintro ρ ⟨h1, h2, h3⟩
      have hall : figsOk (sg z) = true := by
        rw [ho, List.all_eq_true]
        intro c hc
        obtain ⟨j, hj⟩ := List.mem_iff_getElem?.mp hc
        refine h3 j ?_ c hj
        have := (List.getElem?_eq_some_iff.mp hj).1
        simpa [sgns] using this
      obtain ⟨i1, i2⟩ := figs_int hall
      match ρ, h1, h2 with
      | [_, o], h1, _ =>
        cases h1
        refine ⟨_, i1, i2, ?_⟩
        rw [figs_true hall]; exact rfl
  refine ⟨hz, ?_⟩
  show bif decide ((1 : Int) ≤ z.length) then _ else _
  have bad : figsOk (sg z) = false → Out.exc "NoText" = noText (figsL (sg z)) fun n => PyData.int (n : Nat) := fun e => by rw [figs_false e]; rfl
  refine cases_bif (fun h1 => ?_) fun h1 => ?_
  · have h1 : 1 ≤ (sg z).length := by have := of_decide_eq_true h1; omega
    show bif (!decide ((z.length : Int) ≤ 60)) then _ else _
    cases h2 : decide ((z.length : Int) ≤ 60) with
    | false =>
      refine bad ?_
      have : decide ((sg z).length ≤ 60) = false := by
        have := of_decide_eq_false h2
        exact decide_eq_false (by omega)
      unfold figsOk; rw [this]; simp
    | true =>
      have h2' : (sg z).length ≤ 60 := by have := of_decide_eq_true h2; omega
      match e : sg z, h1 with
      | c :: r, _ =>
        refine ⟨hz, c, atI0 e, ?_⟩
        refine ⟨shs _ _, shs _ _, ?_⟩
        show bif PyData.eqv (.str ⟨#[c]⟩) (.str ("0" : Str)) then _ else _
        rw [eqv_c0]
        cases h3 : decide (c = 48) with
        | false =>
          rw [← e]
          refine rest ?_
          have : ¬ c = 48 := of_decide_eq_false h3
          unfold figsOk
          rw [decide_eq_true h1, decide_eq_true h2', e]
          simp [this]
        | true =>
          refine ⟨shs _ _, shs _ _, ?_⟩
          show bif (!PyData.eqv (.str z) (.str ("0" : Str))) then _ else _
          rw [eqv_z0, e]
          cases h4 : decide ((c :: r) = [48]) with
          | true =>
            have h4 := of_decide_eq_true h4
            rw [← e]
            refine rest ?_
            unfold figsOk
            rw [e, h4]; rfl
          | false =>
            have h4 := of_decide_eq_false h4
            have hc : c = 48 := of_decide_eq_true h3
            rw [← e]
            refine bad ?_
            unfold figsOk
            rw [e]
            have : 1 < (c :: r).length := by
              cases r with
              | nil => exact absurd (by rw [hc]) h4
              | cons _ _ => simp
            rw [decide_eq_true this, hc]
            simp
  · refine bad ?_
    have h1 := of_decide_eq_false h1
    have : decide (1 ≤ (sg z).length) = false := decide_eq_false (by omega)
    unfold figsOk; rw [this]; simp
theorem six0 (n d : Nat) : HT.sIx n d none = d := rfl
theorem six1 (n d : Nat) (i : Nat) : HT.sIx n d (some (i : Int)) = min i n := by
  show (if ((i : Int) < 0) then ((i : Int) + n).toNat else min (i : Int).toNat n) = _
  rw [if_neg (by omega)]; simp
theorem sg_cut (z : Str) (lo hi : Option Int) : sg (cutS z lo hi) = ((sg z).drop (HT.sIx z.length 0 lo)).take (HT.sIx z.length z.length hi - HT.sIx z.length 0 lo) := rfl
theorem cut_to (z : Str) (i : Nat) : sg (cutS z none (some (i : Int))) = (sg z).take i := by
  rw [sg_cut, six0, six1, sg_len]
  simp only [List.drop_zero, Nat.sub_zero]
  rcases Nat.le_total i (sg z).length with h | h
  · rw [Nat.min_eq_left h]
  · rw [Nat.min_eq_right h, List.take_of_length_le (Nat.le_refl _), List.take_of_length_le h]
theorem cut_from (z : Str) (i : Nat) : sg (cutS z (some (i : Int)) none) = (sg z).drop i := by
  rw [sg_cut, six0, six1, sg_len]
  rw [List.take_of_length_le (by rw [List.length_drop]; omega)]
  rcases Nat.le_total i (sg z).length with h | h
  · rw [Nat.min_eq_left h]
  · rw [Nat.min_eq_right h, List.drop_of_length_le (Nat.le_refl _), List.drop_of_length_le h]
theorem wholeL_not {l : List Nat} (h : l.take 1 ≠ [45]) : wholeL l = (figsL l).map fun n => (n : Int) := by
  unfold wholeL
  split
  · exact absurd rfl h
  · rfl
theorem wholeL_neg {l : List Nat} (h : l.take 1 = [45]) : wholeL l = (figsL (l.drop 1)).bind fun n => if n = 0 then none else some (-(n : Int)) := by
  match l, h with
  | c :: r, h =>
    have : c = 45 := by simpa using h
    subst this; rfl
theorem neg_zero {l : List Nat} (h : l.take 1 = [45]) (h2 : figsL (l.drop 1) = some 0) : l = [45, 48] := by
  match l, h with
  | c :: r, h =>
    have : c = 45 := by simpa using h
    subst this
    have := figs_zero h2
    simp at this; rw [this]
theorem figs_48 : figsL [48] = some 0 := by decide
theorem run_whole_of : ∀ ds out, g_whole_of ds out → fnP m_whole_of 1 ds (fun o => o = out) := by
  rintro ds out ⟨z, rfl, hz, rfl⟩
  refine ⟨hz, shs _ _, shs _ _, ?_⟩
  show bif !PyData.eqv (.str (cutS z none (some ((1 : Nat) : Int)))) (.str ("-" : Str)) then _ else _
  rw [eqv_str, cut_to, show sg ("-" : Str) = [45] by decide +kernel]
  cases h : decide ((sg z).take 1 = [45]) with
  | false =>
    have h := of_decide_eq_false h
    refine ⟨_, ⟨z, rfl, hz, rfl⟩, ?_⟩
    rw [wholeL_not h]
    cases figsL (sg z) with
    | none => exact rfl
    | some n => exact ⟨rfl, rfl⟩
  | true =>
    have h := of_decide_eq_true h
    refine ⟨shs _ _, shs _ _, ?_⟩
    show bif PyData.eqv (.str z) (.str ("-0" : Str)) then _ else _
    rw [eqv_str, show sg ("-0" : Str) = [45, 48] by decide +kernel, wholeL_neg h]
    cases h2 : decide (sg z = [45, 48]) with
    | true =>
      have h2 := of_decide_eq_true h2
      rw [h2]
      show Out.exc "NoText" = noText ((figsL [48]).bind _) _
      rw [figs_48]; rfl
    | false =>
      have h2 := of_decide_eq_false h2
      refine ⟨hz, ?_⟩
      have e : sg (cutS z (some 1) none) = (sg z).drop 1 := cut_from z 1
      refine ⟨_, ⟨_, rfl, Nat.le_trans (cutS_length z _ _) hz, rfl⟩, ?_⟩
      rw [e]
      cases h3 : figsL ((sg z).drop 1) with
      | none => exact rfl
      | some n =>
        have hn : ¬ n = 0 := fun z0 => h2 (neg_zero h (by rw [h3, z0]))
        refine ⟨rfl, ?_⟩
        show Out.ok (.dat (.int (0 - (n : Int)))) = noText ((some n).bind _) _
        rw [Option.bind_some, if_neg hn, Int.zero_sub]; rfl
theorem part_cut (z : Str) (c : Nat) (s : Str) (hs : sg s = [c]) : Txt.partition z s = match cut c (sg z) with
    | none => (z, ofSg [], ofSg [])
    | some p => (ofSg p.1, s, ofSg p.2) := by
  have hne : TL.tl s ≠ [] := by show sg s ≠ []; rw [hs]; simp
  have h := TL.partition_par z s hne
  have e : TL.par (TL.tl s) [] (TL.tl z) = cut c (sg z) := by
    show TL.par (sg s) [] (sg z) = _
    rw [hs, par_cut]
  rw [e] at h
  rw [h]
  cases cut c (sg z) with
  | none => rfl
  | some p => rfl
theorem asg_part {rest : MS} {ρ : Envr} {D : DS} {z s : Str} {p : Str × Str × Str} (hs : (s.length == 0) = false) (hz : z.length ≤ sizeLine) (e : Txt.partition z s = p) (h : rest (((((some (.dat (.str z)) :: ρ) : Envr).set 1 (some (.dat (.str p.1)))).set 2 (some (.dat (.str p.2.1)))).set 3 (some (.dat (.str p.2.2)))) D) :
    (mSeq (mAsg (gTp [(gNm 1), (gNm 2), (gNm 3)]) (mUp (mM1 fPart (mVar 0) (mC (.str s))))) rest) (some (.dat (.str z)) :: ρ) D := by
  subst e
  exact ⟨hs, hz, rfl, h⟩
theorem cut_len {c : Nat} {l a b : List Nat} (h : cut c l = some (a, b)) : a.length ≤ l.length ∧ b.length ≤ l.length := by
  obtain ⟨rfl, _⟩ := cut_some h
  simp; omega
theorem ofSg_len (l : List Nat) : (ofSg l).length = l.length := by rw [sg_len]
theorem eqv_frd (t n : Int) (f : Fr) : PyData.eqv f.d (.tuple [.int t, .int n]) = decide (f = ⟨t, n⟩) := by
  have e : (PyData.tuple [.int t, .int n]) = (⟨t, n⟩ : Fr).d := rfl
  rw [e, eqv_fr]
  rfl
theorem lowest_eq {t : Int} {n : Nat} (h : 2 ≤ n) : lowest t n = ⟨t, n⟩ ↔ Int.gcd t n = 1 := by
  have e : lowB t n = (Int.gcd t n : Int) := if_neg (by omega)
  have hg : 0 < Int.gcd t n := Int.gcd_pos_of_ne_zero_right t (by omega)
  unfold lowest
  rw [e, Fr.mk.injEq]
  constructor
  · rintro ⟨_, h2⟩
    rw [Int.fdiv_eq_ediv_of_nonneg _ (by omega)] at h2
    have hd : ((Int.gcd t n : Nat) : Int) ∣ n := Int.gcd_dvd_right t n
    have := Int.ediv_mul_cancel hd
    rw [h2] at this
    have h3 : (n : Int) * (Int.gcd t n : Int) = (n : Int) * 1 := by rw [this]; simp
    have := Int.eq_of_mul_eq_mul_left (by omega) h3
    omega
  · intro h
    rw [h]
    simp
theorem run_read_fraction : ∀ ds out, g_read_fraction ds out → fnP m_read_fraction 5 ds (fun o => o = out) := by
  rintro ds out ⟨z, rfl, hz, rfl⟩
  have e := part_cut z 47 "/" (by decide +kernel)
  cases hc : cut 47 (sg z) with
  | none =>
    rw [hc] at e
    have e : Txt.partition z ("/" : Str) = (z, ofSg [], ofSg []) := e
    refine asg_part (by decide +kernel) hz e ?_
    refine ⟨shs _ _, shs _ _, ?_⟩
    refine ⟨_, ⟨z, rfl, hz, rfl⟩, ?_⟩
    have hf : fracL (sg z) = (wholeL (sg z)).map fun t => ⟨t, 1⟩ := by unfold fracL; rw [hc]
    rw [hf]
    cases wholeL (sg z) with
    | none => exact rfl
    | some t => exact ⟨rfl, rfl⟩
  | some p =>
    obtain ⟨a, b⟩ := p
    rw [hc] at e
    have e : Txt.partition z ("/" : Str) = (ofSg a, ("/" : Str), ofSg b) := e
    obtain ⟨la, lb⟩ := cut_len hc
    have la : (ofSg a).length ≤ sizeLine := by rw [ofSg_len]; rw [sg_len] at hz; omega
    have lb : (ofSg b).length ≤ sizeLine := by rw [ofSg_len]; rw [sg_len] at hz; omega
    refine asg_part (by decide +kernel) hz e ?_
    refine ⟨shs _ _, shs _ _, ?_⟩
    refine ⟨_, ⟨_, rfl, la, rfl⟩, ?_⟩
    have hf : fracL (sg z) = (wholeL a).bind fun t => (figsL b).bind fun n => if 2 ≤ n ∧ Int.gcd t n = 1 then some ⟨t, n⟩ else none := by unfold fracL; rw [hc]
    rw [hf]
    show match noText (wholeL a) PyData.int with
      | .ok ev => _
      | .exc c => _
    cases hw : wholeL a with
    | none => exact rfl
    | some t =>
      refine ⟨rfl, _, ⟨_, rfl, lb, rfl⟩, ?_⟩
      show match noText (figsL b) (fun n => PyData.int (n : Nat)) with
        | .ok ev => _
        | .exc c => _
      cases hb : figsL b with
      | none => exact rfl
      | some n =>
        refine ⟨rfl, ?_⟩
        show bif decide ((n : Int) < 2) then _ else _
        cases h2 : decide ((n : Int) < 2) with
        | true =>
          have h2 := of_decide_eq_true h2
          show Out.exc "NoText" = noText ((some t).bind fun t => (some n).bind fun n => if 2 ≤ n ∧ Int.gcd t n = 1 then some (Fr.mk t n) else none) Fr.d
          rw [Option.bind_some, Option.bind_some, if_neg (by omega)]; rfl
        | false =>
          have h2 : 2 ≤ n := by have := of_decide_eq_false h2; omega
          have hn := figs_lt hb
          refine ⟨_, ⟨200, t, n, rfl, by omega, ?_, by omega, rfl⟩, rfl, ?_⟩
          · show (n : Int).natAbs < 2 ^ 200
            have := ten60
            rw [Int.natAbs_natCast]; omega
          refine ⟨rfl, rfl, ?_⟩
          show bif !PyData.eqv (lowest t n).d (.tuple [.int t, .int n]) then _ else _
          rw [eqv_frd]
          show _
          cases h3 : decide (lowest t n = ⟨t, n⟩) with
          | true =>
            have h3 := (lowest_eq h2).mp (of_decide_eq_true h3)
            show Out.ok (.dat (.tuple [.int t, .int n])) = noText ((some t).bind fun t => (some n).bind fun n => if 2 ≤ n ∧ Int.gcd t n = 1 then some (Fr.mk t n) else none) Fr.d
            rw [Option.bind_some, Option.bind_some, if_pos ⟨h2, h3⟩]; rfl
          | false =>
            have h3 : ¬ Int.gcd t n = 1 := fun z0 => of_decide_eq_false h3 ((lowest_eq h2).mpr z0)
            show Out.exc "NoText" = noText ((some t).bind fun t => (some n).bind fun n => if 2 ≤ n ∧ Int.gcd t n = 1 then some (Fr.mk t n) else none) Fr.d
            rw [Option.bind_some, Option.bind_some, if_neg (fun z0 => h3 z0.2)]; rfl
theorem asg_part5 {rest : MS} {D : DS} {z s : Str} {p : Str × Str × Str} {o1 o2 o3 o4 o5 : Option EV} (hs : (s.length == 0) = false) (hz : z.length ≤ sizeLine) (e : Txt.partition z s = p) (h : rest [some (.dat (.str z)), some (.dat (.str p.1)), some (.dat (.str p.2.1)), some (.dat (.str p.2.2)), o4, o5] D) :
    (mSeq (mAsg (gTp [(gNm 1), (gNm 2), (gNm 3)]) (mUp (mM1 fPart (mVar 0) (mC (.str s))))) rest) [some (.dat (.str z)), o1, o2, o3, o4, o5] D := by
  subst e
  exact ⟨hs, hz, rfl, h⟩
theorem fr_bt {f : Fr} {l : List Nat} (h : fracL l = some f) : Bt 200 f.t ∧ Bt 200 f.b ∧ 1 ≤ f.b := by
  obtain ⟨h1, h2, h3⟩ := frac_lt h
  have := ten60
  exact ⟨Nat.lt_trans h1 this, Nat.lt_trans h3 this, h2⟩
theorem run_read_point : ∀ ds out, g_read_point ds out → fnP m_read_point 6 ds (fun o => o = out) := by
  rintro ds out (⟨z, rfl, hz, rfl⟩ | ⟨rfl | ⟨i, rfl⟩, rfl⟩)
  · have e := part_cut z 44 "," (by decide +kernel)
    cases hc : cut 44 (sg z) with
    | none =>
      rw [hc] at e
      have e : Txt.partition z ("," : Str) = (z, ofSg [], ofSg []) := e
      refine asg_part5 (by decide +kernel) hz e ?_
      refine ⟨shs _ _, shs _ _, ?_⟩
      have hf : pointL (sg z) = none := by unfold pointL; rw [hc]
      rw [hf]
      exact rfl
    | some p =>
      obtain ⟨a, b⟩ := p
      rw [hc] at e
      have e : Txt.partition z ("," : Str) = (ofSg a, ("," : Str), ofSg b) := e
      obtain ⟨la, lb⟩ := cut_len hc
      have la : (ofSg a).length ≤ sizeLine := by rw [ofSg_len]; rw [sg_len] at hz; omega
      have lb : (ofSg b).length ≤ sizeLine := by rw [ofSg_len]; rw [sg_len] at hz; omega
      have hf : pointL (sg z) = (fracL a).bind fun f => (fracL b).map fun g => shortest (f.t * g.b) (g.t * f.b) (f.b * g.b) := by unfold pointL; rw [hc]
      rw [hf]
      refine asg_part5 (by decide +kernel) hz e ?_
      refine ⟨shs _ _, shs _ _, ?_⟩
      refine ⟨_, ⟨_, rfl, la, rfl⟩, ?_⟩
      show match noText (fracL a) Fr.d with
        | .ok ev => _
        | .exc c => _
      cases ha : fracL a with
      | none => exact rfl
      | some f =>
        refine ⟨rfl, _, ⟨_, rfl, lb, rfl⟩, ?_⟩
        show match noText (fracL b) Fr.d with
          | .ok ev => _
          | .exc c => _
        cases hb : fracL b with
        | none => exact rfl
        | some g =>
          obtain ⟨a1, a2, a3⟩ := fr_bt ha
          obtain ⟨b1, b2, b3⟩ := fr_bt hb
          have hw : f.b * g.b ≠ 0 := Int.mul_ne_zero (by omega) (by omega)
          exact ⟨rfl, a1.cm b2 (by decide), b1.cm a2 (by decide), a2.cm b2 (by decide), _, ⟨400, _, _, _, rfl, hw, a2.mul b2, by decide, rfl⟩, rfl, rfl⟩
  · exact rfl
  · exact rfl
end Ac
set_option Elab.async false
set_option linter.all false
set_option maxRecDepth 100000
set_option maxHeartbeats 2000000
namespace Ac
open PySem PySem.Spec PyProof.Rows L2 PySem.NumText
def figI (l : List Nat) : Int := match figsL l with
  | some n => n
  | none => -1
def optF (o : Option Fr) : PyData := match o with
  | none => .none
  | some f => f.d
def g__law_divisor : GR := fun ds out => ∃ a b : Nat, ds = [.int a, .int b] ∧ out = .ok (.dat (.int (Nat.gcd a b : Nat)))
def g__law_figures : GR := fun ds out => ∃ z : Str, ds = [.str z] ∧ z.length ≤ sizeLine ∧ out = .ok (.dat (.int (figI (sg z))))
def g__law_number : GR := fun ds out => ∃ z : Str, ds = [.str z] ∧ z.length + 2 ≤ sizeLine ∧ out = .ok (.dat (optF (fracL (sg z))))
def g__law_point : GR := fun ds out => ∃ z : Str, ds = [.str z] ∧ z.length + 2 ≤ sizeLine ∧ out = .ok (.dat (optD (pointL (sg z))))
def m__law_divisor : MS := (mSeq (mWhile (mTst (m2 fNe (mVar 1) (mC (.int 0)))) (mSeq (mSet 2 (mUp (m2 fMod (mVar 0) (mVar 1))))
    (mSeq (mSet 0 (mUp (mVar 1)))
    (mSet 1 (mUp (mVar 2))))))
    (mRet (mUp (mVar 0))))
def m__law_figures : MS := (mSeq (mIf (mOr (mTst (m2 fEq (mL fLen [(mVar 0)]) (mC (.int 0)))) (mOr (mTst (m2 fGt (mL fLen [(mVar 0)]) (mC (.int 60)))) (mAnd (mTst (m2 fEq (m2 fIx (mVar 0) (mC (.int 0))) (mC (.str "0")))) (mTst (m2 fGt (mL fLen [(mVar 0)]) (mC (.int 1))))))) (mRet (mUp (m1 fNeg (mC (.int 1))))) mSkip)
    (mSeq (mFor (miStr (mVar 0)) (gNm 1) (mIf (mTst (m2 (fInS true) (mVar 1) (mC (.str "0123456789")))) (mRet (mUp (m1 fNeg (mC (.int 1))))) mSkip))
    (mRet (mUp (mL fIntS [(mVar 0)])))))
def m__law_number : MS := (mSeq (mSet 1 (mUp (mM1 fSplit (mVar 0) (mC (.str "/")))))
    (mSeq (mSet 2 (mUp (mC (.int 1))))
    (mSeq (mSet 3 (mUp (m2 fIx (mVar 1) (mC (.int 0)))))
    (mSeq (mIf (mTst (m2 fEq (mSl (mVar 3) mNo (mSo (mC (.int 1)))) (mC (.str "-")))) (mSeq (mSet 2 (mUp (m1 fNeg (mC (.int 1)))))
    (mSet 3 (mUp (mSl (mVar 3) (mSo (mC (.int 1))) mNo)))) mSkip)
    (mSeq (mSet 4 (mUp (mCall g__law_figures [(mVar 3)])))
    (mSeq (mIf (mOr (mTst (m2 fGt (mL fLen [(mVar 1)]) (mC (.int 2)))) (mOr (mTst (m2 fLt (mVar 4) (mC (.int 0)))) (mAnd (mTst (m2 fLt (mVar 2) (mC (.int 0)))) (mTst (m2 fEq (mVar 4) (mC (.int 0))))))) (mRet (mUp (mC .none))) mSkip)
    (mSeq (mIf (mTst (m2 fEq (mL fLen [(mVar 1)]) (mC (.int 1)))) (mRet (mUp (mTup [(m2 fMul (mVar 2) (mVar 4)), (mC (.int 1))]))) mSkip)
    (mSeq (mSet 5 (mUp (mCall g__law_figures [(m2 fIx (mVar 1) (mC (.int 1)))])))
    (mSeq (mIf (mOr (mTst (m2 fLt (mVar 5) (mC (.int 2)))) (mTst (m2 fNe (mCall g__law_divisor [(mVar 4), (mVar 5)]) (mC (.int 1))))) (mRet (mUp (mC .none))) mSkip)
    (mRet (mUp (mTup [(m2 fMul (mVar 2) (mVar 4)), (mVar 5)]))))))))))))
def m__law_point : MS := (mSeq (mSet 1 (mUp (mM1 fSplit (mVar 0) (mC (.str ",")))))
    (mSeq (mIf (mTst (m2 fNe (mL fLen [(mVar 1)]) (mC (.int 2)))) (mRet (mUp (mC .none))) mSkip)
    (mSeq (mSet 2 (mUp (mCall g__law_number [(m2 fIx (mVar 1) (mC (.int 0)))])))
    (mSeq (mSet 3 (mUp (mCall g__law_number [(m2 fIx (mVar 1) (mC (.int 1)))])))
    (mSeq (mIf (mOr (mTst (m2 (fIsN false) (mVar 2) (mC .none))) (mTst (m2 (fIsN false) (mVar 3) (mC .none)))) (mRet (mUp (mC .none))) mSkip)
    (mSeq (mSet 4 (mUp (mCall g__law_divisor [(mCall g__law_divisor [(mL fAbs [(m2 fMul (m2 fIx (mVar 2) (mC (.int 0))) (m2 fIx (mVar 3) (mC (.int 1))))]), (mL fAbs [(m2 fMul (m2 fIx (mVar 3) (mC (.int 0))) (m2 fIx (mVar 2) (mC (.int 1))))])]), (m2 fMul (m2 fIx (mVar 2) (mC (.int 1))) (m2 fIx (mVar 3) (mC (.int 1))))])))
    (mRet (mUp (mTup [(m2 fDiv (m2 fMul (m2 fIx (mVar 2) (mC (.int 0))) (m2 fIx (mVar 3) (mC (.int 1)))) (mVar 4)), (m2 fDiv (m2 fMul (m2 fIx (mVar 3) (mC (.int 0))) (m2 fIx (mVar 2) (mC (.int 1)))) (mVar 4)), (m2 fDiv (m2 fMul (m2 fIx (mVar 2) (mC (.int 1))) (m2 fIx (mVar 3) (mC (.int 1)))) (mVar 4))])))))))))
theorem ar__law_divisor : ∀ ds out, g__law_divisor ds out → ds.length = 2 := by rintro ds out ⟨a, b, rfl, _⟩; rfl
theorem ar__law_figures : ∀ ds out, g__law_figures ds out → ds.length = 1 := by rintro ds out ⟨z, rfl, _⟩; rfl
theorem ar__law_number : ∀ ds out, g__law_number ds out → ds.length = 1 := by rintro ds out ⟨z, rfl, _⟩; rfl
theorem ar__law_point : ∀ ds out, g__law_point ds out → ds.length = 1 := by rintro ds out ⟨z, rfl, _⟩; rfl
theorem run__law_divisor : ∀ ds out, g__law_divisor ds out → fnP m__law_divisor 3 ds (fun o => o = out) := by
  rintro ds out ⟨a, b, rfl, rfl⟩
  refine ⟨fun n ρ => ∃ (x y : Nat) (z : Option EV), y = n ∧ ρ = [some (.dat (.int x)), some (.dat (.int y)), z] ∧ Nat.gcd x y = Nat.gcd a b, ⟨b, a, b, none, rfl, rfl, rfl⟩, ?_⟩
  rintro n ρ ⟨x, y, z, rfl, rfl, hg⟩
  refine ⟨rfl, rfl, ?_⟩
  show bif !((y : Int) == 0) then _ else _
  cases h : ((y : Int) == 0) with
  | false =>
    have h : (y : Int) ≠ 0 := beq_eq_false_iff_ne.mp h
    refine ⟨h, x % y, Nat.mod_lt _ (by omega), y, x % y, some (.dat (.int ((x % y : Nat) : Int))), rfl, ?_, ?_⟩
    · have e : (x : Int).fmod y = ((x % y : Nat) : Int) := by rw [Int.fmod_eq_emod_of_nonneg _ (by omega)]; rfl
      show [some (EV.dat (.int y)), some (.dat (.int ((x : Int).fmod y))), some (.dat (.int ((x : Int).fmod y)))] = _
      rw [e]
    · rw [← hg, Nat.gcd_comm y, ← Nat.gcd_rec, Nat.gcd_comm]
  | true =>
    have h : (y : Int) = 0 := eq_of_beq h
    have : y = 0 := by omega
    subst this
    show Out.ok (.dat (.int (x : Int))) = _
    rw [← hg, Nat.gcd_zero_right]
theorem figI_none {l : List Nat} (h : figsOk l = false) : figI l = -1 := by unfold figI; rw [figs_false h]
theorem figI_some {l : List Nat} (h : figsOk l = true) : figI l = (digitsVal l : Nat) := by unfold figI; rw [figs_true h]
theorem run__law_figures : ∀ ds out, g__law_figures ds out → fnP m__law_figures 2 ds (fun o => o = out) := by
  rintro ds out ⟨z, rfl, hz, rfl⟩
  have hl : (z.length : Int) = ((sg z).length : Nat) := by rw [sg_len]
  have rest : (figsOk (sg z) = (sg z).all isD) → fnP (mSeq (mFor (miStr (mVar 0)) (gNm 1) (mIf (mTst (m2 (fInS true) (mVar 1) (mC (.str "0123456789")))) (mRet (mUp (m1 fNeg (mC (.int 1))))) mSkip)) (mRet (mUp (mL fIntS [(mVar 0)])))) 2 [.str z] (fun o => o = .ok (.dat (.int (figI (sg z))))) := by
    intro ho
    refine ⟨fun k ρ => ρ[0]? = some (some (.dat (.str z))) ∧ ρ.length = 2 ∧ ∀ j, j < k → ∀ c, (sg z)[j]? = some c → isD c = true, ⟨rfl, rfl, fun j h => absurd h (Nat.not_lt_zero _)⟩, ?_, ?_⟩
    · rintro k x ρ hx ⟨h1, h2, h3⟩
      obtain ⟨c, hc, rfl⟩ := sgns_get hx
      match ρ, h1, h2 with
      | [_, o], h1, _ =>
        cases h1
        refine ⟨c, _, rfl, rfl, ?_⟩
        show bif xor true (decide (c ∈ sg ("0123456789" : Str))) then _ else _
        rw [fig_in]
        cases hd : isD c with
        | true => exact ⟨rfl, rfl, fun j hj c' hc' => by
            rcases Nat.lt_succ_iff_lt_or_eq.mp hj with h | h
            · exact h3 j h c' hc'
            · subst h; rw [hc] at hc'; cases hc'; exact hd⟩
        | false =>
          show Out.ok (.dat (.int (-1))) = _
          rw [figI_none]
          rw [ho, List.all_eq_false]
          exact ⟨c, List.mem_of_getElem? hc, by rw [hd]; exact Bool.false_ne_true⟩
    · rintro ρ ⟨h1, h2, h3⟩
      have hall : figsOk (sg z) = true := by
        rw [ho, List.all_eq_true]
        intro c hc
        obtain ⟨j, hj⟩ := List.mem_iff_getElem?.mp hc
        refine h3 j ?_ c hj
        have := (List.getElem?_eq_some_iff.mp hj).1
        simpa [sgns] using this
      obtain ⟨i1, i2⟩ := figs_int hall
      match ρ, h1, h2 with
      | [_, o], h1, _ =>
        cases h1
        refine ⟨_, i1, i2, ?_⟩
        rw [figI_some hall]; exact rfl
  have bad : figsOk (sg z) = false → Out.ok (.dat (.int (-1))) = Out.ok (.dat (.int (figI (sg z)))) := fun e => by rw [figI_none e]
  refine ⟨hz, rfl, rfl, ?_⟩
  show bif (z.length : Int) == 0 then _ else _
  cases h1 : ((z.length : Int) == 0) with
  | true =>
    have h1 : (z.length : Int) = 0 := eq_of_beq h1
    refine bad ?_
    have : decide (1 ≤ (sg z).length) = false := decide_eq_false (by omega)
    unfold figsOk; rw [this]; simp
  | false =>
    have h1 : (z.length : Int) ≠ 0 := beq_eq_false_iff_ne.mp h1
    have h1 : 1 ≤ (sg z).length := by omega
    refine ⟨hz, ?_⟩
    show bif decide ((60 : Int) < z.length) then _ else _
    cases h2 : decide ((60 : Int) < z.length) with
    | true =>
      refine bad ?_
      have : decide ((sg z).length ≤ 60) = false := by
        have := of_decide_eq_true h2
        exact decide_eq_false (by omega)
      unfold figsOk; rw [this]; simp
    | false =>
      have h2' : (sg z).length ≤ 60 := by have := of_decide_eq_false h2; omega
      match e : sg z, h1 with
      | c :: r, _ =>
        refine ⟨hz, c, atI0 e, ?_⟩
        refine ⟨shs _ _, shs _ _, ?_⟩
        show bif PyData.eqv (.str ⟨#[c]⟩) (.str ("0" : Str)) then _ else _
        rw [eqv_c0]
        cases h3 : decide (c = 48) with
        | false =>
          rw [← e]
          refine rest ?_
          have : ¬ c = 48 := of_decide_eq_false h3
          unfold figsOk
          rw [decide_eq_true h1, decide_eq_true h2', e]
          simp [this]
        | true =>
          refine ⟨hz, ?_⟩
          show bif decide ((1 : Int) < z.length) then _ else _
          cases h4 : decide ((1 : Int) < z.length) with
          | true =>
            have h4 := of_decide_eq_true h4
            have hc : c = 48 := of_decide_eq_true h3
            rw [← e]
            refine bad ?_
            unfold figsOk
            have : 1 < (sg z).length := by omega
            rw [decide_eq_true this, e, hc]
            simp
          | false =>
            have h4 := of_decide_eq_false h4
            rw [← e]
            refine rest ?_
            unfold figsOk
            have : ¬ 1 < (sg z).length := by omega
            rw [decide_eq_true h1, decide_eq_true h2', decide_eq_false this]
            simp
theorem split_of (z : Str) (c : Nat) (s : Str) (hs : sg s = [c]) (hc : c < 256) : Txt.split z s = (TL.spl [c] 0 [] (sg z)).map ofSg := by
  have hne : TL.tl s ≠ [] := by show sg s ≠ []; rw [hs]; simp
  have hk : s.cps.all (· < 256) = true := by
    rw [Array.all_eq_true_iff_forall_mem]
    intro x hx
    have : x ∈ sg s := Array.mem_toList_iff.mpr hx
    rw [hs] at this
    have : x = c := by simpa using this
    subst this
    exact decide_eq_true hc
  have h := TL.split_spl z s hne (TL.kind_ok hk)
  apply TL.map_tl_inj
  rw [h, List.map_map]
  show TL.spl (sg s) 0 [] (sg z) = _
  rw [hs]
  exact (List.map_id _).symm.trans (List.map_congr_left fun l _ => rfl)
theorem set_split {rest : MS} {D : DS} {z s : Str} {ps : List (List Nat)} {o1 : Option EV} {os : Envr} (hs : (s.length == 0) = false) (hz : z.length + 2 ≤ sizeLine) (e : Txt.split z s = ps.map ofSg)
    (h : rest (some (.dat (.str z)) :: some (.lst (ps.map fun l => .str (ofSg l))) :: os) D) :
    (mSeq (mSet 1 (mUp (mM1 fSplit (mVar 0) (mC (.str s))))) rest) (some (.dat (.str z)) :: o1 :: os) D := by
  refine ⟨hs, hz, ?_⟩
  rw [e, List.map_map]
  exact h
/-- the sign and the figures behind it -/
def hsI (l : List Nat) : Int × Int := if l.take 1 = [45] then (-1, figI (l.drop 1)) else (1, figI l)
theorem whole_hs (l : List Nat) : wholeL l = if (hsI l).2 < 0 ∨ ((hsI l).1 < 0 ∧ (hsI l).2 = 0) then none else some ((hsI l).1 * (hsI l).2) := by
  unfold hsI
  by_cases h : l.take 1 = [45]
  · rw [if_pos h, wholeL_neg h]
    unfold figI
    cases e : figsL (l.drop 1) with
    | none => rfl
    | some n =>
      simp only [Option.bind_some]
      by_cases hn : n = 0
      · subst hn; rfl
      · rw [if_neg hn, if_neg (by omega)]
        congr 1; omega
  · rw [if_neg h, wholeL_not h]
    unfold figI
    cases e : figsL l with
    | none => rfl
    | some n =>
      rw [if_neg (by show ¬ (((n : Int) < 0) ∨ ((1 : Int) < 0 ∧ (n : Int) = 0)); omega)]
      show some (n : Int) = some (1 * (n : Int))
      rw [Int.one_mul]
theorem figI_lt (l : List Nat) : (figI l).natAbs < 2 ^ 200 := by
  unfold figI
  have := ten60
  split
  · rename_i n h
    have := figs_lt h
    rw [Int.natAbs_natCast]; omega
  · show 1 < 2 ^ 200; decide
theorem hsI_lt (l : List Nat) : Bt 200 (hsI l).2 ∧ Bt 1 (hsI l).1 := by
  unfold hsI
  split
  · exact ⟨figI_lt _, by show (1 : Nat) < 2 ^ 1; decide⟩
  · exact ⟨figI_lt _, by show (1 : Nat) < 2 ^ 1; decide⟩
/-- what follows when the sign and the figures are told -/
def m_num2 : MS := (mSeq (mIf (mOr (mTst (m2 fGt (mL fLen [(mVar 1)]) (mC (.int 2)))) (mOr (mTst (m2 fLt (mVar 4) (mC (.int 0)))) (mAnd (mTst (m2 fLt (mVar 2) (mC (.int 0)))) (mTst (m2 fEq (mVar 4) (mC (.int 0))))))) (mRet (mUp (mC .none))) mSkip)
    (mSeq (mIf (mTst (m2 fEq (mL fLen [(mVar 1)]) (mC (.int 1)))) (mRet (mUp (mTup [(m2 fMul (mVar 2) (mVar 4)), (mC (.int 1))]))) mSkip)
    (mSeq (mSet 5 (mUp (mCall g__law_figures [(m2 fIx (mVar 1) (mC (.int 1)))])))
    (mSeq (mIf (mOr (mTst (m2 fLt (mVar 5) (mC (.int 2)))) (mTst (m2 fNe (mCall g__law_divisor [(mVar 4), (mVar 5)]) (mC (.int 1))))) (mRet (mUp (mC .none))) mSkip)
    (mRet (mUp (mTup [(m2 fMul (mVar 2) (mVar 4)), (mVar 5)])))))))
abbrev dsO (O : Out → Prop) : DS := { nx := fun _ => O (.ok (.dat .none)), rt := fun rv ρ => kRt rv ρ fun ev => O (.ok ev), bk := fun _ => False, ct := fun _ => False, xc := fun c _ => O (.exc c) }
theorem num_head {z : Str} {O : Out → Prop} {l : List Nat} {ps : List (List Nat)} {o2 o3 o4 o5 : Option EV} (hl : l.length + 2 ≤ sizeLine)
    (h : m_num2 [some (.dat (.str z)), some (.lst ((l :: ps).map fun l => .str (ofSg l))), some (.dat (.int (hsI l).1)), some (.dat (.str (bif decide (l.take 1 = [45]) then cutS (ofSg l) (some 1) none else ofSg l))), some (.dat (.int (hsI l).2)), o5] (dsO O)) :
    (mSeq (mSet 2 (mUp (mC (.int 1))))
    (mSeq (mSet 3 (mUp (m2 fIx (mVar 1) (mC (.int 0)))))
    (mSeq (mIf (mTst (m2 fEq (mSl (mVar 3) mNo (mSo (mC (.int 1)))) (mC (.str "-")))) (mSeq (mSet 2 (mUp (m1 fNeg (mC (.int 1)))))
    (mSet 3 (mUp (mSl (mVar 3) (mSo (mC (.int 1))) mNo)))) mSkip)
    (mSeq (mSet 4 (mUp (mCall g__law_figures [(mVar 3)]))) m_num2)))) [some (.dat (.str z)), some (.lst ((l :: ps).map fun l => .str (ofSg l))), o2, o3, o4, o5] (dsO O) := by
  have hz : (ofSg l).length ≤ sizeLine := by rw [ofSg_len]; omega
  have e0 : atI ((l :: ps).map fun l => PyData.str (ofSg l)) 0 = some (.str (ofSg l)) := by simp [atI, ixN]
  show kAt ((l :: ps).map fun l => PyData.str (ofSg l)) 0 _
  unfold kAt
  rw [e0]
  refine ⟨hz, shs _ _, shs _ _, ?_⟩
  show bif PyData.eqv (.str (cutS (ofSg l) none (some ((1 : Nat) : Int)))) (.str ("-" : Str)) then _ else _
  rw [eqv_str, cut_to, show sg ("-" : Str) = [45] by decide +kernel, sg_of]
  cases hc : decide (l.take 1 = [45]) with
  | true =>
    have hc' := of_decide_eq_true hc
    rw [hc] at h
    refine ⟨hz, _, ⟨_, rfl, Nat.le_trans (cutS_length _ _ _) hz, rfl⟩, rfl, ?_⟩
    have e : sg (cutS (ofSg l) (some 1) none) = l.drop 1 := cut_from (ofSg l) 1
    have e1 : (hsI l).1 = -1 := by unfold hsI; rw [if_pos hc']
    have e2 : (hsI l).2 = figI (l.drop 1) := by unfold hsI; rw [if_pos hc']
    rw [e1, e2] at h
    rw [e]
    exact h
  | false =>
    have hc' := of_decide_eq_false hc
    rw [hc] at h
    refine ⟨_, ⟨_, rfl, hz, rfl⟩, rfl, ?_⟩
    have e1 : (hsI l).1 = 1 := by unfold hsI; rw [if_neg hc']
    have e2 : (hsI l).2 = figI l := by unfold hsI; rw [if_neg hc']
    rw [e1, e2] at h
    exact h
def numT (s t : Int) : List (List Nat) → Option Fr
  | [] => some ⟨s * t, 1⟩
  | b :: _ => if figI b < 2 ∨ Int.gcd t (figI b) ≠ 1 then none else some ⟨s * t, figI b⟩
def numR (s t : Int) (ps : List (List Nat)) : Option Fr := if 1 < ps.length ∨ t < 0 ∨ (s < 0 ∧ t = 0) then none else numT s t ps
theorem optF_d (f : Fr) : optF (some f) = .tuple [.int f.t, .int f.b] := rfl
theorem num2_ok {O : Out → Prop} {z : Option EV} {h o5 : Option EV} {l : List Nat} {ps : List (List Nat)} {s t : Int} (hs : Bt 1 s) (ht : Bt 200 t) (hps : ∀ b ∈ ps, b.length ≤ sizeLine) (fin : O (.ok (.dat (optF (numR s t ps))))) :
    m_num2 [z, some (.lst ((l :: ps).map fun l => .str (ofSg l))), some (.dat (.int s)), h, some (.dat (.int t)), o5] (dsO O) := by
  have hlen : ((((l :: ps).map fun l => PyData.str (ofSg l)).length : Nat) : Int) = 1 + ps.length := by simp; omega
  show bif decide ((2 : Int) < (((l :: ps).map fun l => PyData.str (ofSg l)).length : Nat)) then _ else _
  rw [hlen]
  have none' : (1 < ps.length ∨ t < 0 ∨ (s < 0 ∧ t = 0)) → O (.ok (.dat .none)) := fun hh => by
    unfold numR at fin; rw [if_pos hh] at fin; exact fin
  cases h1 : decide ((2 : Int) < 1 + (ps.length : Nat)) with
  | true => exact none' (.inl (by have := of_decide_eq_true h1; omega))
  | false =>
    have h1 : ¬ 1 < ps.length := by have := of_decide_eq_false h1; omega
    show bif decide (t < 0) then _ else _
    cases h2 : decide (t < 0) with
    | true => exact none' (.inr (.inl (of_decide_eq_true h2)))
    | false =>
      have h2 := of_decide_eq_false h2
      have key : ¬ (s < 0 ∧ t = 0) → (mSeq (mIf (mTst (m2 fEq (mL fLen [(mVar 1)]) (mC (.int 1)))) (mRet (mUp (mTup [(m2 fMul (mVar 2) (mVar 4)), (mC (.int 1))]))) mSkip)
          (mSeq (mSet 5 (mUp (mCall g__law_figures [(m2 fIx (mVar 1) (mC (.int 1)))])))
          (mSeq (mIf (mOr (mTst (m2 fLt (mVar 5) (mC (.int 2)))) (mTst (m2 fNe (mCall g__law_divisor [(mVar 4), (mVar 5)]) (mC (.int 1))))) (mRet (mUp (mC .none))) mSkip)
          (mRet (mUp (mTup [(m2 fMul (mVar 2) (mVar 4)), (mVar 5)])))))) [z, some (.lst ((l :: ps).map fun l => .str (ofSg l))), some (.dat (.int s)), h, some (.dat (.int t)), o5] (dsO O) := by
        intro h3
        have hm : CMulX s t := hs.cm ht (by decide)
        have nn : numR s t ps = numT s t ps := by
          unfold numR
          refine if_neg ?_
          rintro (a | b | c)
          · exact h1 a
          · exact h2 b
          · exact h3 c
        rw [nn] at fin
        clear none' hlen nn
        match ps, h1, hps, fin with
        | [], _, _, fin => exact ⟨rfl, rfl, hm, fin⟩
        | [b], _, hps, fin =>
          refine ⟨rfl, rfl, ?_⟩
          have hb : (ofSg b).length ≤ sizeLine := by rw [ofSg_len]; exact hps b (by simp)
          refine ⟨_, ⟨ofSg b, rfl, hb, rfl⟩, rfl, ?_⟩
          show bif decide (figI b < 2) then _ else _
          cases h4 : decide (figI b < 2) with
          | true =>
            have h4 := of_decide_eq_true h4
            rw [show numT s t [b] = none from if_pos (.inl h4)] at fin
            exact fin
          | false =>
            have h4 := of_decide_eq_false h4
            obtain ⟨k, hk⟩ := Int.eq_ofNat_of_zero_le (show 0 ≤ t by omega)
            obtain ⟨n, hn⟩ := Int.eq_ofNat_of_zero_le (show 0 ≤ figI b by omega)
            refine ⟨_, ⟨k, n, by show [PyData.int t, .int (figI b)] = _; rw [hk, hn], rfl⟩, rfl, rfl, rfl, ?_⟩
            show bif !(((Nat.gcd k n : Nat) : Int) == 1) then _ else _
            have hg : Int.gcd t (figI b) = Nat.gcd k n := by rw [hk, hn]; rfl
            cases h5 : (((Nat.gcd k n : Nat) : Int) == 1) with
            | true =>
              have h5 : ((Nat.gcd k n : Nat) : Int) = 1 := eq_of_beq h5
              rw [show numT s t [b] = some ⟨s * t, figI b⟩ from if_neg (by rw [hg]; omega)] at fin
              exact ⟨hm, fin⟩
            | false =>
              have h5 : ((Nat.gcd k n : Nat) : Int) ≠ 1 := beq_eq_false_iff_ne.mp h5
              rw [show numT s t [b] = none from if_pos (.inr (by rw [hg]; omega))] at fin
              exact fin
        | _ :: _ :: _, h1, _, _ => exact absurd (by simp) h1
      show bif decide (s < 0) then _ else _
      cases h3 : decide (s < 0) with
      | true =>
        have h3 := of_decide_eq_true h3
        refine ⟨rfl, rfl, ?_⟩
        show bif t == 0 then _ else _
        cases h4 : (t == 0) with
        | true => exact none' (.inr (.inr ⟨h3, eq_of_beq h4⟩))
        | false => exact key fun hh => beq_eq_false_iff_ne.mp h4 hh.2
      | false => exact key fun hh => of_decide_eq_false h3 hh.1
theorem gcd_sign (s t n : Int) (hs : s = 1 ∨ s = -1) : Int.gcd (s * t) n = Int.gcd t n := by
  rcases hs with rfl | rfl
  · rw [Int.one_mul]
  · rw [show -1 * t = -t by omega, Int.neg_gcd]
theorem hsI_one (l : List Nat) : (hsI l).1 = 1 ∨ (hsI l).1 = -1 := by
  unfold hsI; split
  · exact .inr rfl
  · exact .inl rfl
theorem figs_no {b : List Nat} {c : Nat} (h : c ∈ b) (hc : ¬ (48 ≤ c ∧ c ≤ 57)) : figsL b = none := by
  cases e : figsL b with
  | none => rfl
  | some n => exact absurd ((figs_digits e).1 c h) hc
/-- the law's number is the program's -/
theorem num_frac {l : List Nat} {a : List Nat} {ps : List (List Nat)} (h : TL.spl [47] 0 [] l = a :: ps) : numR (hsI a).1 (hsI a).2 ps = fracL l := by
  rw [spl_cut] at h
  unfold fracL
  cases hc : cut 47 l with
  | none =>
    rw [hc] at h
    injection h with h1 h2
    subst h1 h2
    unfold numR
    rw [whole_hs]
    by_cases hh : (hsI l).2 < 0 ∨ ((hsI l).1 < 0 ∧ (hsI l).2 = 0)
    · rw [if_pos (.inr hh), if_pos hh]; rfl
    · rw [if_neg (by rintro (z | z); · exact absurd z (by simp)
                     · exact hh z), if_neg hh]; rfl
  | some p =>
    obtain ⟨a', b⟩ := p
    rw [hc] at h
    injection h with h1 h2
    have h1 : a' = a := h1
    have h2 : TL.spl [47] 0 [] b = ps := h2
    subst h1
    show _ = (wholeL a').bind fun t => (figsL b).bind fun n => if 2 ≤ n ∧ Int.gcd t n = 1 then some (Fr.mk t n) else none
    rw [whole_hs]
    unfold numR
    by_cases hh : (hsI a').2 < 0 ∨ ((hsI a').1 < 0 ∧ (hsI a').2 = 0)
    · rw [if_pos (.inr hh), if_pos hh]; rfl
    · rw [if_neg hh]
      show _ = (figsL b).bind fun n => if 2 ≤ n ∧ Int.gcd ((hsI a').1 * (hsI a').2) n = 1 then some (Fr.mk ((hsI a').1 * (hsI a').2) n) else none
      simp only [gcd_sign _ _ _ (hsI_one a')]
      rw [spl_cut] at h2
      cases hc2 : cut 47 b with
      | some q =>
        obtain ⟨b1, b2⟩ := q
        rw [hc2] at h2
        have := spl_pos 47 b2
        have hl : 1 < ps.length := by rw [← h2]; simp; omega
        rw [if_pos (.inl hl), figs_no (c := 47) (by rw [(cut_some hc2).1]; simp) (by decide)]; rfl
      | none =>
        rw [hc2] at h2
        subst h2
        rw [if_neg (by rintro (z | z); · exact absurd z (by simp)
                       · exact hh z)]
        show (if figI b < 2 ∨ Int.gcd (hsI a').2 (figI b) ≠ 1 then none else some (Fr.mk ((hsI a').1 * (hsI a').2) (figI b))) = _
        unfold figI
        cases figsL b with
        | none => exact if_pos (.inl (by decide))
        | some n =>
          simp only [Option.bind_some]
          by_cases h2 : 2 ≤ n ∧ Int.gcd (hsI a').2 n = 1
          · rw [if_pos h2, if_neg (by rintro (z | z); · omega
                                      · exact z h2.2)]
          · rw [if_neg h2, if_pos (by
              by_cases z : 2 ≤ n
              · exact .inr fun y => h2 ⟨z, y⟩
              · exact .inl (by omega))]
theorem spl_len (c : Nat) : ∀ (n : Nat) (l : List Nat), l.length ≤ n → ∀ p ∈ TL.spl [c] 0 [] l, p.length ≤ l.length
  | n, l, hn, p, hp => by
    rw [spl_cut] at hp
    cases hc : cut c l with
    | none => rw [hc] at hp; simp at hp; subst hp; exact Nat.le_refl _
    | some q =>
      obtain ⟨a, b⟩ := q
      rw [hc] at hp
      obtain ⟨e, _⟩ := cut_some hc
      have hb : b.length < l.length := by rw [e]; simp; omega
      rcases List.mem_cons.mp hp with rfl | hp
      · exact (cut_len hc).1
      · match n, hn with
        | 0, hn => omega
        | n + 1, hn => exact Nat.le_trans (spl_len c n b (by omega) p hp) (by omega)
theorem run__law_number : ∀ ds out, g__law_number ds out → fnP m__law_number 6 ds (fun o => o = out) := by
  rintro ds out ⟨z, rfl, hz, rfl⟩
  have e := split_of z 47 "/" (by decide +kernel) (by decide)
  have hz' : (sg z).length + 2 ≤ sizeLine := by rw [← sg_len]; exact hz
  have hlen := spl_len 47 _ (sg z) (Nat.le_refl _)
  cases hs : TL.spl [47] 0 [] (sg z) with
  | nil => have := spl_pos 47 (sg z); rw [hs] at this; exact absurd this (by decide)
  | cons a ps =>
    rw [hs] at e hlen
    show (mSeq (mSet 1 (mUp (mM1 fSplit (mVar 0) (mC (.str "/"))))) (mSeq (mSet 2 (mUp (mC (.int 1))))
    (mSeq (mSet 3 (mUp (m2 fIx (mVar 1) (mC (.int 0)))))
    (mSeq (mIf (mTst (m2 fEq (mSl (mVar 3) mNo (mSo (mC (.int 1)))) (mC (.str "-")))) (mSeq (mSet 2 (mUp (m1 fNeg (mC (.int 1)))))
    (mSet 3 (mUp (mSl (mVar 3) (mSo (mC (.int 1))) mNo)))) mSkip)
    (mSeq (mSet 4 (mUp (mCall g__law_figures [(mVar 3)]))) m_num2))))) [some (.dat (.str z)), none, none, none, none, none] (dsO fun o => o = .ok (.dat (optF (fracL (sg z)))))
    refine set_split (by decide +kernel) hz e ?_
    refine num_head (Nat.le_trans (Nat.add_le_add_right (hlen a (by simp)) 2) hz') ?_
    obtain ⟨b1, b2⟩ := hsI_lt a
    refine num2_ok b2 b1 (fun b hb => Nat.le_trans (hlen b (by simp [hb])) (Nat.le_trans (Nat.le_add_right _ 2) hz')) ?_
    rw [num_frac hs]
end Ac
set_option Elab.async false
set_option linter.all false
set_option maxRecDepth 100000
set_option maxHeartbeats 2000000
namespace Ac
open PySem PySem.Spec PyProof.Rows L2 PySem.NumText
theorem frac_no {l : List Nat} (h : 44 ∈ l) : fracL l = none := by
  have wh : ∀ l : List Nat, 44 ∈ l → wholeL l = none := by
    intro l h
    unfold wholeL
    split
    · rename_i r
      rw [figs_no (c := 44) (by simpa using h) (by decide)]; rfl
    · rw [figs_no h (by decide)]; rfl
  unfold fracL
  cases hc : cut 47 l with
  | none => rw [wh l h]; rfl
  | some p =>
    obtain ⟨a, b⟩ := p
    obtain ⟨rfl, _⟩ := cut_some hc
    show ((wholeL a).bind _) = none
    rcases List.mem_append.mp h with h | h
    · rw [wh a h]; rfl
    · have : 44 ∈ b := by simpa using h
      rw [figs_no this (by decide)]
      cases wholeL a <;> rfl
def ptR (ps : List (List Nat)) : Option Pt := match ps with
  | [a, b] => (fracL a).bind fun f => (fracL b).map fun g => shortest (f.t * g.b) (g.t * f.b) (f.b * g.b)
  | _ => none
theorem pt_point {l : List Nat} : ptR (TL.spl [44] 0 [] l) = pointL l := by
  rw [spl_cut]
  unfold pointL
  cases hc : cut 44 l with
  | none => rfl
  | some p =>
    obtain ⟨a, b⟩ := p
    show ptR (a :: TL.spl [44] 0 [] b) = (fracL a).bind fun f => (fracL b).map fun g => shortest (f.t * g.b) (g.t * f.b) (f.b * g.b)
    rw [spl_cut]
    cases hc2 : cut 44 b with
    | none => rfl
    | some q =>
      obtain ⟨c, d⟩ := q
      rw [frac_no (l := b) (by rw [(cut_some hc2).1]; simp)]
      show ptR (a :: c :: TL.spl [44] 0 [] d) = _
      have h := spl_pos 44 d
      cases hd : TL.spl [44] 0 [] d with
      | nil => rw [hd] at h; exact absurd h (by decide)
      | cons x xs => show none = _; cases fracL a <;> rfl
theorem run__law_point : ∀ ds out, g__law_point ds out → fnP m__law_point 5 ds (fun o => o = out) := by
  rintro ds out ⟨z, rfl, hz, rfl⟩
  have e := split_of z 44 "," (by decide +kernel) (by decide)
  have hz' : (sg z).length + 2 ≤ sizeLine := by rw [← sg_len]; exact hz
  have hlen := spl_len 44 _ (sg z) (Nat.le_refl _)
  rw [← pt_point]
  generalize TL.spl [44] 0 [] (sg z) = ps at e hlen
  refine set_split (ps := ps) (by decide +kernel) hz e ?_
  refine ⟨rfl, rfl, ?_⟩
  show bif !(((((ps.map fun l => PyData.str (ofSg l)).length : Nat) : Int) == 2)) then _ else _
  cases h2 : ((((ps.map fun l => PyData.str (ofSg l)).length : Nat) : Int) == 2) with
  | false =>
    have h2 := beq_eq_false_iff_ne.mp h2
    have : ptR ps = none := by
      unfold ptR
      split
      · exact absurd (by simp) h2
      · rfl
    rw [this]; exact rfl
  | true =>
    have h2 : (((ps.map fun l => PyData.str (ofSg l)).length : Nat) : Int) = 2 := eq_of_beq h2
    have h2 : ps.length = 2 := by rw [List.length_map] at h2; omega
    match ps, h2, hlen with
    | [a, b], _, hlen =>
      have la : (ofSg a).length + 2 ≤ sizeLine := by rw [ofSg_len]; exact Nat.le_trans (Nat.add_le_add_right (hlen a (by simp)) 2) hz'
      have lb : (ofSg b).length + 2 ≤ sizeLine := by rw [ofSg_len]; exact Nat.le_trans (Nat.add_le_add_right (hlen b (by simp)) 2) hz'
      refine ⟨_, ⟨_, rfl, la, rfl⟩, rfl, _, ⟨_, rfl, lb, rfl⟩, rfl, ?_⟩
      rw [sg_of, sg_of]
      have hp : ptR [a, b] = (fracL a).bind fun f => (fracL b).map fun g => shortest (f.t * g.b) (g.t * f.b) (f.b * g.b) := rfl
      rw [hp]
      cases ha : fracL a with
      | none => exact ⟨rfl, rfl⟩
      | some f =>
        cases hb : fracL b with
        | none => exact ⟨rfl, rfl, rfl⟩
        | some g =>
          obtain ⟨a1, a2, a3⟩ := fr_bt ha
          obtain ⟨b1, b2, b3⟩ := fr_bt hb
          have hw : f.b * g.b ≠ 0 := Int.mul_ne_zero (by omega) (by omega)
          have hw0 : 0 ≤ f.b * g.b := Int.mul_nonneg (by omega) (by omega)
          have m1 : CMulX f.t g.b := a1.cm b2 (by decide)
          have m2 : CMulX g.t f.b := b1.cm a2 (by decide)
          have m3 : CMulX f.b g.b := a2.cm b2 (by decide)
          refine ⟨rfl, rfl, ?_⟩
          refine ⟨m1, m2, ?_⟩
          refine ⟨_, ⟨(f.t * g.b).natAbs, (g.t * f.b).natAbs, by rw [← abs_if, ← abs_if]; rfl, rfl⟩, rfl, ?_⟩
          refine ⟨m3, ?_⟩
          refine ⟨_, ⟨Nat.gcd (f.t * g.b).natAbs (g.t * f.b).natAbs, (f.b * g.b).natAbs, by
            rw [Int.natAbs_of_nonneg hw0]; rfl, rfl⟩, rfl, ?_⟩
          have eb : shortB (f.t * g.b) (g.t * f.b) (f.b * g.b) = ((Nat.gcd (Nat.gcd (f.t * g.b).natAbs (g.t * f.b).natAbs) (f.b * g.b).natAbs : Nat) : Int) := by
            unfold shortB
            rw [if_neg (by omega)]
            rfl
          have hd : ∀ i, CDivZ i ((Nat.gcd (Nat.gcd (f.t * g.b).natAbs (g.t * f.b).natAbs) (f.b * g.b).natAbs : Nat) : Int) := fun i => by
            rw [← eb]
            exact (shortB_bt hw (a2.mul b2)).dv (shortB_ne hw) (by decide)
          refine ⟨m1, hd _, m2, hd _, m3, hd _, ?_⟩
          show Out.ok (.dat (.tuple [_, _, _])) = Out.ok (.dat (shortest (f.t * g.b) (g.t * f.b) (f.b * g.b)).d)
          unfold shortest
          rw [eb]; rfl
    | [], h, _ => exact absurd h (by decide)
    | [_], h, _ => exact absurd h (by simp)
    | _ :: _ :: _ :: _, h, _ => exact absurd h (by simp)
def cellAt (ns : List Int) (k : Nat) : Int := ns.getD k 0
def lInts (ns : List Int) : PyData := .list (ns.map .int)
def g__law_cell_at : GR := fun ds out => ∃ (ns : List Int) (k : Nat), ds = [lInts ns, .int k] ∧ out = .ok (.dat (.int (cellAt ns k)))
def g__law_whole : GR := g_is_whole
def g__law_alike0 : GR := fun ds out => ∃ i : Int, ds = [.int i, .int i] ∧ out = .ok (.dat (.bool true))
def g__law_alike : GR := fun ds out => ∃ p : Pt, ds = [p.d, p.d] ∧ out = .ok (.dat (.bool true))
def bound71 (c : Int) : Int := bif c.fmod 2 == 0 then 10 ^ 60 - 1 else 10 ^ 59
def sizes71 : List Int := [10, 100, 1000, 10 ^ 9, 10 ^ 20, 10 ^ 60]
def size71 (c : Int) : Int := sizes71.getD (c.fmod 6).toNat 10
def g__law_bound : GR := fun ds out => ∃ c : Int, ds = [.int c] ∧ out = .ok (.dat (.int (bound71 c)))
def g__law_size : GR := fun ds out => ∃ c : Int, ds = [.int c] ∧ out = .ok (.dat (.int (size71 c)))
def m__law_cell_at : MS := (mSeq (mIf (mTst (m2 fLt (mVar 1) (mL fLen [(mVar 0)]))) (mRet (mUp (m2 fIx (mVar 0) (mVar 1)))) mSkip)
    (mRet (mUp (mC (.int 0)))))
def m__law_whole : MS := (mRet (mUp (mAndV (m1 (fIsi "int") (mVar 0)) (mNotV (m1 (fIsi "bool") (mVar 0))))))
def m__law_bound : MS := (mRet (mIfX (mTst (m2 fEq (m2 fMod (mVar 0) (mC (.int 2))) (mC (.int 0)))) (mUp (m2 fSub (m2 fPow (mC (.int 10)) (mC (.int 60))) (mC (.int 1)))) (mUp (m2 fPow (mC (.int 10)) (mC (.int 59))))))
def m__law_size : MS := (mRet (mUp (m2 fIx (mLst [(mC (.int 10)), (mC (.int 100)), (mC (.int 1000)), (m2 fPow (mC (.int 10)) (mC (.int 9))), (m2 fPow (mC (.int 10)) (mC (.int 20))), (m2 fPow (mC (.int 10)) (mC (.int 60)))]) (m2 fMod (mVar 0) (mC (.int 6))))))
def m__law_alike0 : MS := (mSeq (mIf (mTru (m1 (fIsi "bool") (mVar 1))) (mRet (mUp (mAndV (m1 (fIsi "bool") (mVar 0)) (m2 fEq (mVar 0) (mVar 1))))) mSkip)
    (mSeq (mIf (mTru (m1 (fIsi "int") (mVar 1))) (mRet (mUp (mAndV (mCall g__law_whole [(mVar 0)]) (m2 fEq (mVar 0) (mVar 1))))) mSkip)
    (mSeq (mIf (mTru (m1 (fIsi "tuple") (mVar 1))) (mIf (mNot (mTru (m1 (fIsi "tuple") (mVar 0)))) (mRet (mUp (mC (.bool false)))) mSkip) (mIf (mNot (mTru (m1 (fIsi "list") (mVar 0)))) (mRet (mUp (mC (.bool false)))) mSkip))
    (mSeq (mIf (mTst (m2 fNe (mL fLen [(mVar 0)]) (mL fLen [(mVar 1)]))) (mRet (mUp (mC (.bool false)))) mSkip)
    (mSeq (mFor (miRng1 (mL fLen [(mVar 1)])) (gNm 2) (mIf (mNot (mTru (mCall gNone [(m2 fIx (mVar 0) (mVar 2)), (m2 fIx (mVar 1) (mVar 2))]))) (mRet (mUp (mC (.bool false)))) mSkip))
    (mRet (mUp (mC (.bool true)))))))))
def m__law_alike : MS := (mSeq (mIf (mTru (m1 (fIsi "bool") (mVar 1))) (mRet (mUp (mAndV (m1 (fIsi "bool") (mVar 0)) (m2 fEq (mVar 0) (mVar 1))))) mSkip)
    (mSeq (mIf (mTru (m1 (fIsi "int") (mVar 1))) (mRet (mUp (mAndV (mCall g__law_whole [(mVar 0)]) (m2 fEq (mVar 0) (mVar 1))))) mSkip)
    (mSeq (mIf (mTru (m1 (fIsi "tuple") (mVar 1))) (mIf (mNot (mTru (m1 (fIsi "tuple") (mVar 0)))) (mRet (mUp (mC (.bool false)))) mSkip) (mIf (mNot (mTru (m1 (fIsi "list") (mVar 0)))) (mRet (mUp (mC (.bool false)))) mSkip))
    (mSeq (mIf (mTst (m2 fNe (mL fLen [(mVar 0)]) (mL fLen [(mVar 1)]))) (mRet (mUp (mC (.bool false)))) mSkip)
    (mSeq (mFor (miRng1 (mL fLen [(mVar 1)])) (gNm 2) (mIf (mNot (mTru (mCall g__law_alike0 [(m2 fIx (mVar 0) (mVar 2)), (m2 fIx (mVar 1) (mVar 2))]))) (mRet (mUp (mC (.bool false)))) mSkip))
    (mRet (mUp (mC (.bool true)))))))))
theorem ar__law_cell_at : ∀ ds out, g__law_cell_at ds out → ds.length = 2 := by rintro ds out ⟨z, k, rfl, _⟩; rfl
theorem atI_nat {α : Type} {xs : List α} {k : Nat} {x : α} (h : xs[k]? = some x) : atI xs (k : Int) = some x := by
  have hk := (List.getElem?_eq_some_iff.mp h).1
  unfold atI ixN
  rw [if_pos (by omega), if_pos (by omega)]
  simpa using h
theorem run__law_cell_at : ∀ ds out, g__law_cell_at ds out → fnP m__law_cell_at 2 ds (fun o => o = out) := by
  rintro ds out ⟨ns, k, rfl, rfl⟩
  show bif decide ((k : Int) < ((ns.map PyData.int).length : Nat)) then _ else _
  rw [List.length_map]
  cases h : decide ((k : Int) < (ns.length : Nat)) with
  | true =>
    have h : k < ns.length := by have := of_decide_eq_true h; omega
    have e : (ns.map PyData.int)[k]? = some (.int (cellAt ns k)) := by
      rw [List.getElem?_map, List.getElem?_eq_getElem h]
      unfold cellAt
      rw [List.getD_eq_getElem?_getD, List.getElem?_eq_getElem h]; rfl
    show kAt (ns.map PyData.int) (k : Int) _
    unfold kAt
    rw [atI_nat e]
    exact rfl
  | false =>
    have h : ¬ k < ns.length := by have := of_decide_eq_false h; omega
    have e : cellAt ns k = 0 := by
      unfold cellAt
      rw [List.getD_eq_getElem?_getD, List.getElem?_eq_none (by omega)]; rfl
    rw [e]; exact rfl
theorem ar__law_whole : ∀ ds out, g__law_whole ds out → ds.length = 1 := ar_is_whole
theorem run__law_whole : ∀ ds out, g__law_whole ds out → fnP m__law_whole 1 ds (fun o => o = out) := by
  rintro ds out ⟨i, rfl, rfl⟩
  exact rfl
theorem ar__law_alike0 : ∀ ds out, g__law_alike0 ds out → ds.length = 2 := by rintro ds out ⟨i, rfl, _⟩; rfl
theorem ar__law_alike : ∀ ds out, g__law_alike ds out → ds.length = 2 := by rintro ds out ⟨i, rfl, _⟩; rfl
theorem run__law_alike0 : ∀ ds out, g__law_alike0 ds out → fnP m__law_alike0 3 ds (fun o => o = out) := by
  rintro ds out ⟨i, rfl, rfl⟩
  refine ⟨_, ⟨i, rfl, rfl⟩, rfl, rfl, rfl, ?_⟩
  show Out.ok (.dat (.bool (i == i))) = _
  rw [beq_self_eq_true]
theorem run__law_alike : ∀ ds out, g__law_alike ds out → fnP m__law_alike 3 ds (fun o => o = out) := by
  rintro ds out ⟨p, rfl, rfl⟩
  refine ⟨rfl, rfl, ?_⟩
  refine ⟨⟨by show -(2 ^ 62 : Int) ≤ ((3 : Nat) : Int); decide, by show ((3 : Nat) : Int) < 2 ^ 62; decide⟩, fun k ρ => ∃ o, ρ = [some (.dat p.d), some (.dat p.d), o], ⟨none, rfl⟩, ?_, ?_⟩
  · rintro k x ρ hx ⟨o, rfl⟩
    match k, hx with
    | 0, hx => cases hx; exact ⟨_, ⟨_, rfl, rfl⟩, rfl, _, rfl⟩
    | 1, hx => cases hx; exact ⟨_, ⟨_, rfl, rfl⟩, rfl, _, rfl⟩
    | 2, hx => cases hx; exact ⟨_, ⟨_, rfl, rfl⟩, rfl, _, rfl⟩
    | k + 3, hx => exact absurd (List.getElem?_eq_some_iff.mp hx).1 (by show ¬ k + 3 < 3; omega)
  · rintro ρ ⟨o, rfl⟩
    exact rfl
theorem ar__law_bound : ∀ ds out, g__law_bound ds out → ds.length = 1 := by rintro ds out ⟨i, rfl, _⟩; rfl
theorem ar__law_size : ∀ ds out, g__law_size ds out → ds.length = 1 := by rintro ds out ⟨i, rfl, _⟩; rfl
theorem cpow {i j : Int} (h0 : 0 ≤ j) (h1 : j ≤ 1000000) (h2 : i.natAbs < 2 ^ 64) : CPow i j := ⟨h0, h1, h2⟩
theorem run__law_bound : ∀ ds out, g__law_bound ds out → fnP m__law_bound 1 ds (fun o => o = out) := by
  rintro ds out ⟨c, rfl, rfl⟩
  unfold bound71
  refine ⟨(by decide : (2 : Int) ≠ 0), rfl, rfl, ?_⟩
  show bif c.fmod 2 == 0 then _ else _
  cases h : (c.fmod 2 == 0) with
  | true => exact ⟨cpow (by decide) (by decide) (by decide), rfl⟩
  | false => exact ⟨cpow (by decide) (by decide) (by decide), rfl⟩
theorem fmod_range (c : Int) (n : Nat) (h : 0 < n) : ∃ k : Nat, k < n ∧ c.fmod n = k := by
  have h1 := Int.emod_nonneg c (show (n : Int) ≠ 0 by omega)
  have h2 := Int.emod_lt_of_pos c (show (0 : Int) < n by omega)
  rw [Int.fmod_eq_emod_of_nonneg _ (by omega)]
  exact ⟨(c % n).toNat, by omega, by omega⟩
theorem run__law_size : ∀ ds out, g__law_size ds out → fnP m__law_size 1 ds (fun o => o = out) := by
  rintro ds out ⟨c, rfl, rfl⟩
  unfold size71
  obtain ⟨k, hk, e⟩ := fmod_range c 6 (by decide)
  refine ⟨cpow (by decide) (by decide) (by decide), cpow (by decide) (by decide) (by decide), cpow (by decide) (by decide) (by decide), ?_⟩
  refine ⟨(by decide : (6 : Int) ≠ 0), ?_⟩
  have e' : c.fmod 6 = (k : Int) := e
  show kAt [.int 10, .int 100, .int 1000, .int (10 ^ 9), .int (10 ^ 20), .int (10 ^ 60)] (c.fmod 6) _
  rw [e']
  match k, hk with
  | 0, _ => exact rfl
  | 1, _ => exact rfl
  | 2, _ => exact rfl
  | 3, _ => exact rfl
  | 4, _ => exact rfl
  | 5, _ => exact rfl
  | k + 6, h => exact absurd h (by omega)
theorem size71_b (c : Int) : 10 ≤ size71 c ∧ size71 c ≤ 10 ^ 60 := by
  unfold size71
  obtain ⟨k, hk, e⟩ := fmod_range c 6 (by decide)
  have e' : c.fmod 6 = (k : Int) := e
  rw [e']
  match k, hk with
  | 0, _ => decide
  | 1, _ => decide
  | 2, _ => decide
  | 3, _ => decide
  | 4, _ => decide
  | 5, _ => decide
  | k + 6, h => exact absurd h (by omega)
end Ac
set_option Elab.async false
set_option linter.all false
set_option maxRecDepth 100000
set_option maxHeartbeats 2000000
namespace Ac
open PySem PySem.Spec PyProof.Rows L2 PySem.NumText
def odds71 : List Str := (((((([""  , ",", "1", "1,", ",1", "1,2,3", "1;2", "00,0", "0,00", "-0,0", "0,-0", "+1,0"] : List Str) ++ (["1,+0", "01,2", "1,-02"] : List Str)) ++ (["1/1,0", "2/4,0", "0,0/2", "1/0,0", "1/-2,0", "1/2/3,0", "-/2,0", "1/,0", "/2,0"] : List Str)) ++ (["1 ,0", " 1,0", "1, 0"] : List Str)) ++
  (["1.5,0", "1e1,0", "1_0,0", "--1,0", "-,0", "1/02,0", "a,b", "0,0\n"] : List Str)) ++ ([mulS "1" 61 ++ (",0" : Str), ("0,1/1" : Str) ++ mulS "0" 60] : List Str))
def odd71 (c : Int) : Str := odds71.getD (c.fmod 37).toNat ""
def signs71 : Str := "0123456789-/,; +.ex_\t\n"
def at71 (z : Str) (c : Int) : Int := (c.fdiv 3).fmod ((z.length : Int) + 1)
def more71 (c : Int) : Str := ⟨#[(sg signs71).getD ((c.fdiv 61).fmod 22).toNat 0]⟩
def spoil71 (z : Str) (c : Int) : Str :=
  bif c.fmod 3 == 0 then cutS z none (some (at71 z c)) ++ cutS z (some (at71 z c + 1)) none
  else bif c.fmod 3 == 1 then cutS z none (some (at71 z c)) ++ more71 c ++ cutS z (some (at71 z c)) none
  else cutS z none (some (at71 z c)) ++ more71 c ++ cutS z (some (at71 z c + 1)) none
def sI (i : Int) : Str := (toString i : String)
def top71 (c : Int) : Int := bif (c.fdiv 96).fmod 9 == 2 then bound71 (c.fdiv 864) else (c.fdiv 24).fmod (size71 (c.fdiv 4))
def sign71 (c : Int) : Str := bif top71 c == 0 then "" else bif c.fmod 2 == 0 then "" else "-"
/-- the next number that has no divisor in common with t -/
def cop (t : Nat) : Nat → Nat → Nat
  | 0, b => b
  | n + 1, b => if Nat.gcd t b = 1 then b else cop t n (b + 1)
def bot71 (c : Int) : Int := 2 + ((c * 48271).fmod 2147483647 * (10 ^ 51 + 9)).fmod (size71 (c.fdiv 7) - 8)
def num71 (c : Int) : Str :=
  bif (c.fdiv 2).fmod 2 == 0 || top71 c == 0 then sign71 c ++ sI (top71 c)
  else sign71 c ++ sI (top71 c) ++ ("/" : Str) ++ sI (cop (top71 c).toNat (top71 c).toNat (bot71 c).toNat : Nat)
def showF (f : Fr) : Str := bif f.b == 1 then sI f.t else sI f.t ++ ("/" : Str) ++ sI f.b
def g__law_odd : GR := fun ds out => ∃ c : Int, ds = [.int c] ∧ out = .ok (.dat (.str (odd71 c)))
def g__law_spoilt : GR := fun ds out => ∃ (z : Str) (c : Int), ds = [.str z, .int c] ∧ z.length ≤ 1000 ∧ out = .ok (.dat (.str (spoil71 z c)))
def g__law_number_text : GR := fun ds out => ∃ c : Int, ds = [.int c] ∧ Bt 1100000 c ∧ out = .ok (.dat (.str (num71 c)))
def g_show_fraction : GR := fun ds out => ∃ f : Fr, ds = [f.d] ∧ Bt 200 f.t ∧ Bt 200 f.b ∧ out = .ok (.dat (.str (showF f)))
def readR (o : Option Pt) : PyData := match o with
  | some p => p.d
  | none => .str "none"
def g__law_read : GR := fun ds out => (∃ z : Str, ds = [.str z] ∧ z.length ≤ sizeLine ∧ out = .ok (.dat (readR (pointL (sg z))))) ∨ ((ds = [.none] ∨ ∃ i, ds = [.int i]) ∧ out = .ok (.dat (.str "none")))
def g__law_right : GR := fun ds out => ∃ z : Str, ds = [.str z] ∧ z.length + 2 ≤ sizeLine ∧ out = .ok (.dat (.bool true))
def g_law71 : GR := fun ds out => ∃ ns : List Int, ds = [lInts ns] ∧ (∀ z ∈ ns, Builtin.Int.intBits z ≤ 1048576) ∧ out = .ok (.dat (.bool true))
def m__law_odd : MS := (mSeq (mSet 1 (mUp (mLst [(mC (.str "")), (mC (.str ",")), (mC (.str "1")), (mC (.str "1,")), (mC (.str ",1")), (mC (.str "1,2,3")), (mC (.str "1;2")), (mC (.str "00,0")), (mC (.str "0,00")), (mC (.str "-0,0")), (mC (.str "0,-0")), (mC (.str "+1,0"))])))
    (mSeq (mSet 1 (mUp (m2 fAdd (mVar 1) (mLst [(mC (.str "1,+0")), (mC (.str "01,2")), (mC (.str "1,-02"))]))))
    (mSeq (mSet 1 (mUp (m2 fAdd (mVar 1) (mLst [(mC (.str "1/1,0")), (mC (.str "2/4,0")), (mC (.str "0,0/2")), (mC (.str "1/0,0")), (mC (.str "1/-2,0")), (mC (.str "1/2/3,0")), (mC (.str "-/2,0")), (mC (.str "1/,0")), (mC (.str "/2,0"))]))))
    (mSeq (mSet 1 (mUp (m2 fAdd (mVar 1) (mLst [(mC (.str "1 ,0")), (mC (.str " 1,0")), (mC (.str "1, 0"))]))))
    (mSeq (mSet 1 (mUp (m2 fAdd (mVar 1) (mLst [(mC (.str "1.5,0")), (mC (.str "1e1,0")), (mC (.str "1_0,0")), (mC (.str "--1,0")), (mC (.str "-,0")), (mC (.str "1/02,0")), (mC (.str "a,b")), (mC (.str "0,0\n"))]))))
    (mSeq (mSet 1 (mUp (m2 fAdd (mVar 1) (mLst [(m2 fAdd (m2 fMulX (mC (.str "1")) (mC (.int 61))) (mC (.str ",0"))), (m2 fAdd (mC (.str "0,1/1")) (m2 fMulX (mC (.str "0")) (mC (.int 60))))]))))
    (mRet (mUp (m2 fIx (mVar 1) (m2 fMod (mVar 0) (mL fLen [(mVar 1)])))))))))))
def m__law_spoilt : MS := (mSeq (mSet 2 (mUp (mC (.str "0123456789-/,; +.ex_\t\n"))))
    (mSeq (mSet 3 (mUp (m2 fMod (m2 fDiv (mVar 1) (mC (.int 3))) (m2 fAdd (mL fLen [(mVar 0)]) (mC (.int 1))))))
    (mSeq (mSet 4 (mUp (m2 fMod (m2 fDiv (mVar 1) (mC (.int 61))) (mC (.int 22)))))
    (mSeq (mIf (mTst (m2 fEq (m2 fMod (mVar 1) (mC (.int 3))) (mC (.int 0)))) (mRet (mUp (m2 fAdd (mSl (mVar 0) mNo (mSo (mVar 3))) (mSl (mVar 0) (mSo (m2 fAdd (mVar 3) (mC (.int 1)))) mNo)))) mSkip)
    (mSeq (mIf (mTst (m2 fEq (m2 fMod (mVar 1) (mC (.int 3))) (mC (.int 1)))) (mRet (mUp (m2 fAdd (m2 fAdd (mSl (mVar 0) mNo (mSo (mVar 3))) (m2 fIx (mVar 2) (mVar 4))) (mSl (mVar 0) (mSo (mVar 3)) mNo)))) mSkip)
    (mRet (mUp (m2 fAdd (m2 fAdd (mSl (mVar 0) mNo (mSo (mVar 3))) (m2 fIx (mVar 2) (mVar 4))) (mSl (mVar 0) (mSo (m2 fAdd (mVar 3) (mC (.int 1)))) mNo)))))))))
def m__law_number_text : MS := (mSeq (mSet 1 (mUp (m2 fMod (m2 fDiv (mVar 0) (mC (.int 24))) (mCall g__law_size [(m2 fDiv (mVar 0) (mC (.int 4)))]))))
    (mSeq (mIf (mTst (m2 fEq (m2 fMod (m2 fDiv (mVar 0) (mC (.int 96))) (mC (.int 9))) (mC (.int 2)))) (mSet 1 (mUp (mCall g__law_bound [(m2 fDiv (mVar 0) (mC (.int 864)))]))) mSkip)
    (mSeq (mSet 2 (mUp (m2 fIx (mLst [(mC (.str "")), (mC (.str "-"))]) (m2 fMod (mVar 0) (mC (.int 2))))))
    (mSeq (mIf (mTst (m2 fEq (mVar 1) (mC (.int 0)))) (mSet 2 (mUp (mC (.str "")))) mSkip)
    (mSeq (mIf (mOr (mTst (m2 fEq (m2 fMod (m2 fDiv (mVar 0) (mC (.int 2))) (mC (.int 2))) (mC (.int 0)))) (mTst (m2 fEq (mVar 1) (mC (.int 0))))) (mRet (mUp (m2 fAdd (mVar 2) (mL fStrI [(mVar 1)])))) mSkip)
    (mSeq (mSet 3 (mUp (m2 fAdd (mC (.int 2)) (m2 fMod (m2 fMul (m2 fMod (m2 fMul (mVar 0) (mC (.int 48271))) (mC (.int 2147483647))) (m2 fAdd (m2 fPow (mC (.int 10)) (mC (.int 51))) (mC (.int 9)))) (m2 fSub (mCall g__law_size [(m2 fDiv (mVar 0) (mC (.int 7)))]) (mC (.int 8)))))))
    (mSeq (mWhile (mTst (m2 fNe (mCall g__law_divisor [(mVar 1), (mVar 3)]) (mC (.int 1)))) (mSet 3 (mUp (m2 fAdd (mVar 3) (mC (.int 1))))))
    (mRet (mUp (m2 fAdd (m2 fAdd (m2 fAdd (mVar 2) (mL fStrI [(mVar 1)])) (mC (.str "/"))) (mL fStrI [(mVar 3)])))))))))))
def m_show_fraction : MS := (mSeq (mIf (mTst (m2 fEq (m2 fIx (mVar 0) (mC (.int 1))) (mC (.int 1)))) (mRet (mUp (mL fStrI [(m2 fIx (mVar 0) (mC (.int 0)))]))) mSkip)
    (mRet (mUp (m2 fAdd (m2 fAdd (mL fStrI [(m2 fIx (mVar 0) (mC (.int 0)))]) (mC (.str "/"))) (mL fStrI [(m2 fIx (mVar 0) (mC (.int 1)))])))))
def m__law_read : MS := (mTryAs 1 (catL [("NoText", true)]) (mRet (mUp (mCall g_read_point [(mVar 0)]))) (fun v c => (mSeq (mIf (mOr (mTru (mIsE 1 v false)) (mNot (mTru (mIsE 1 v true)))) (mRet (mUp (mC (.str "other")))) mSkip)
    (mSeq (mIf (mNot (mTru (mIsE 1 v true))) (mRet (mUp (mC (.str "other")))) mSkip)
    (mRet (mUp (mC (.str "none"))))))))
def m__law_right : MS := (mSeq (mSet 1 (mUp (mCall g__law_point [(mVar 0)])))
    (mSeq (mIf (mTst (m2 (fIsN false) (mVar 1) (mC .none))) (mSet 1 (mUp (mC (.str "none")))) mSkip)
    (mSeq (mSet 2 (mUp (mCall g__law_read [(mVar 0)])))
    (mSeq (mIf (mTru (m1 (fIsi "str") (mVar 1))) (mRet (mUp (mAndV (m1 (fIsi "str") (mVar 2)) (m2 fEq (mVar 2) (mVar 1))))) mSkip)
    (mRet (mUp (mCall g__law_alike [(mVar 2), (mVar 1)])))))))
def m_law71 : MS := (mSeq (mSet 1 (mUp (m2 fAdd (m2 fAdd (mCall g__law_number_text [(mL fAbs [(mCall g__law_cell_at [(mVar 0), (mC (.int 0))])])]) (mC (.str ","))) (mCall g__law_number_text [(mL fAbs [(mCall g__law_cell_at [(mVar 0), (mC (.int 1))])])]))))
    (mSeq (mIf (mOr (mNot (mTru (mCall g__law_right [(mVar 1)]))) (mNot (mTru (mCall g__law_right [(mCall g__law_odd [(mCall g__law_cell_at [(mVar 0), (mC (.int 2))])])])))) (mRet (mUp (mC (.bool false)))) mSkip)
    (mSeq (mFor (miRng1 (mC (.int 5))) (gNm 2) (mIf (mNot (mTru (mCall g__law_right [(mCall g__law_spoilt [(mVar 1), (m2 fAdd (mL fAbs [(mCall g__law_cell_at [(mVar 0), (m2 fAdd (mC (.int 3)) (mVar 2))])]) (mVar 2))])]))) (mRet (mUp (mC (.bool false)))) mSkip))
    (mSeq (mIf (mOr (mTst (m2 fNe (mCall g__law_read [(mC (.int 5))]) (mC (.str "none")))) (mOr (mTst (m2 fNe (mCall g__law_read [(mC .none)]) (mC (.str "none")))) (mNot (mTru (mCall g__law_right [(mVar 1)]))))) (mRet (mUp (mC (.bool false)))) mSkip)
    (mSeq (mSet 3 (mUp (mCall g__law_number [(mCall g__law_number_text [(mL fAbs [(mCall g__law_cell_at [(mVar 0), (mC (.int 8))])])])])))
    (mSeq (mIf (mTst (m2 (fIsN false) (mVar 3) (mC .none))) (mSet 3 (mUp (mTup [(m1 fNeg (mC (.int 1))), (mC (.int 2))]))) mSkip)
    (mSeq (mSet 4 (mUp (mL fStrI [(m2 fIx (mVar 3) (mC (.int 0)))])))
    (mSeq (mIf (mTst (m2 fGt (m2 fIx (mVar 3) (mC (.int 1))) (mC (.int 1)))) (mSet 4 (mUp (m2 fAdd (m2 fAdd (mVar 4) (mC (.str "/"))) (mL fStrI [(m2 fIx (mVar 3) (mC (.int 1)))])))) mSkip)
    (mSeq (mSet 5 (mUp (mCall g_show_fraction [(mVar 3)])))
    (mRet (mUp (mAndV (m1 (fIsi "str") (mVar 5)) (m2 fEq (mVar 5) (mVar 4))))))))))))))
theorem ar__law_odd : ∀ ds out, g__law_odd ds out → ds.length = 1 := by rintro ds out ⟨i, rfl, _⟩; rfl
theorem ar__law_spoilt : ∀ ds out, g__law_spoilt ds out → ds.length = 2 := by rintro ds out ⟨i, c, rfl, _⟩; rfl
theorem ar__law_number_text : ∀ ds out, g__law_number_text ds out → ds.length = 1 := by rintro ds out ⟨i, rfl, _⟩; rfl
theorem ar_show_fraction : ∀ ds out, g_show_fraction ds out → ds.length = 1 := by rintro ds out ⟨i, rfl, _⟩; rfl
theorem ar__law_read : ∀ ds out, g__law_read ds out → ds.length = 1 := by rintro ds out (⟨z, rfl, _⟩ | ⟨rfl | ⟨i, rfl⟩, _⟩) <;> rfl
theorem ar__law_right : ∀ ds out, g__law_right ds out → ds.length = 1 := by rintro ds out ⟨i, rfl, _⟩; rfl
theorem ar_law71 : ∀ ds out, g_law71 ds out → ds.length = 1 := by rintro ds out ⟨i, rfl, _⟩; rfl
theorem app_len (x y : Str) : (x ++ y).length = x.length + y.length := by rw [sg_len, sg_len, sg_len, show sg (x ++ y) = sg x ++ sg y from TL.tl_append x y, List.length_append]
theorem strI_len {i : Int} {k : Nat} (hk : 0 < k) (h : i.natAbs < 10 ^ k) : (sI i).length ≤ k + 1 := by
  have gen : ∀ n : Nat, n < 10 ^ k → (Str.ofString (toString ((n : Nat) : Int))).length ≤ k := fun n hn => by
    rw [TL.len_tl, TL.tl_num]
    exact TL.numL_len hk hn
  unfold sI
  cases i with
  | ofNat n => exact Nat.le_succ_of_le (gen n h)
  | negSucc m =>
    have h1 := gen (m + 1) h
    rw [sg_len] at h1 ⊢
    have e1 : sg (Str.ofString (toString (Int.negSucc m))) = (toString (Int.negSucc m)).toList.map Char.toNat := TL.tl_ofString _
    have e2 : sg (Str.ofString (toString ((m + 1 : Nat) : Int))) = (toString ((m + 1 : Nat) : Int)).toList.map Char.toNat := TL.tl_ofString _
    rw [e1, List.length_map]
    rw [e2, List.length_map] at h1
    have e3 : toString (Int.negSucc m) = "-" ++ toString ((m + 1 : Nat) : Int) := rfl
    rw [e3, String.toList_append, List.length_append]
    show 1 + _ ≤ _
    omega
theorem two200 : (2 : Nat) ^ 200 < 10 ^ 61 := by decide
theorem sI_len {i : Int} (h : Bt 200 i) : (sI i).length ≤ 62 := strI_len (by decide) (Nat.lt_trans h two200)
theorem sI_log {i : Int} (h : Bt 200 i) : i.natAbs.log2 < 1920 := Nat.lt_trans (PySem.Flt.log2_lt_of (by decide) h) (by decide)
theorem sz_big : 10000 ≤ sizeLine := by decide
theorem odd_ok : ∀ z ∈ odds71, z.length ≤ 100 := by decide +kernel
theorem run__law_odd : ∀ ds out, g__law_odd ds out → fnP m__law_odd 2 ds (fun o => o = out) := by
  rintro ds out ⟨c, rfl, rfl⟩
  refine ⟨by decide, by decide, by decide, by decide, ?_⟩
  refine ⟨by decide, by decide +kernel, by decide +kernel, by decide, ?_⟩
  refine ⟨by decide +kernel, ?_⟩
  refine ⟨by decide, by decide +kernel, by decide +kernel, by decide, ?_⟩
  refine ⟨by decide +kernel, ?_⟩
  refine ⟨by decide, ?_⟩
  show ((37 : Nat) : Int) ≠ 0 ∧ kAt (odds71.map PyData.str) (c.fmod ((37 : Nat) : Int)) _
  refine ⟨by decide, ?_⟩
  obtain ⟨k, hk, e⟩ := fmod_range c 37 (by decide)
  have hl : odds71.length = 37 := by decide
  have hg : (odds71.map PyData.str)[k]? = some (.str (odd71 c)) := by
    unfold odd71
    rw [show c.fmod 37 = (k : Int) from e, Int.toNat_natCast, List.getElem?_map, List.getD_eq_getElem?_getD, List.getElem?_eq_getElem (by omega)]
    rfl
  unfold kAt
  rw [e, atI_nat hg]
  exact rfl
theorem odd71_len (c : Int) : (odd71 c).length ≤ 100 := by
  obtain ⟨k, hk, e⟩ := fmod_range c 37 (by decide)
  have hl : odds71.length = 37 := by decide
  unfold odd71
  rw [show c.fmod 37 = (k : Int) from e, Int.toNat_natCast, List.getD_eq_getElem?_getD, List.getElem?_eq_getElem (by omega)]
  exact odd_ok _ (List.getElem_mem _)
theorem run__law_spoilt : ∀ ds out, g__law_spoilt ds out → fnP m__law_spoilt 5 ds (fun o => o = out) := by
  rintro ds out ⟨z, c, rfl, hz, rfl⟩
  have hz' : z.length ≤ sizeLine := Nat.le_trans hz (Nat.le_trans (by decide) sz_big)
  have hs : signs71.length ≤ sizeLine := by decide +kernel
  obtain ⟨k, hk, e⟩ := fmod_range (c.fdiv 61) 22 (by decide)
  have e : (c.fdiv 61).fmod 22 = (k : Int) := e
  have hl : (sg signs71).length = 22 := by decide +kernel
  have hm : atI (sg signs71) ((c.fdiv 61).fmod 22) = some ((sg signs71).getD ((c.fdiv 61).fmod 22).toNat 0) := by
    rw [e, Int.toNat_natCast, List.getD_eq_getElem?_getD]
    rw [atI_nat (List.getElem?_eq_getElem (by omega)), List.getElem?_eq_getElem (by omega)]; rfl
  have l1 : ∀ (a b : Option Int), (cutS z a b).length ≤ 1000 := fun a b => Nat.le_trans (cutS_length z a b) hz
  have l2 : (more71 c).length = 1 := by unfold more71; rw [sg_len]; rfl
  have cz : CDivZ c 3 := ⟨by decide, by decide⟩
  have cz2 : CDivZ c 61 := ⟨by decide, by decide⟩
  refine ⟨cz, hz', by omega, ?_⟩
  refine ⟨cz2, (by decide : (22 : Int) ≠ 0), ?_⟩
  refine ⟨(by decide : (3 : Int) ≠ 0), rfl, rfl, ?_⟩
  unfold spoil71
  show bif c.fmod 3 == 0 then _ else _
  have sz := sz_big
  cases h : (c.fmod 3 == 0) with
  | true =>
    refine ⟨hz', hz', ?_⟩
    refine ⟨?_, rfl⟩
    have a := l1 none (some (at71 z c))
    have b := l1 (some (at71 z c + 1)) none
    show (cutS z none (some (at71 z c))).length + (cutS z (some (at71 z c + 1)) none).length ≤ sizeLine
    omega
  | false =>
    refine ⟨(by decide : (3 : Int) ≠ 0), rfl, rfl, ?_⟩
    show bif c.fmod 3 == 1 then _ else _
    have a := l1 none (some (at71 z c))
    have b := l1 (some (at71 z c + 1)) none
    have b' := l1 (some (at71 z c)) none
    have ab := app_len (cutS z none (some (at71 z c))) (more71 c)
    cases h1 : (c.fmod 3 == 1) with
    | true =>
      refine ⟨hz', hs, _, hm, ?_⟩
      refine ⟨?_, ?_⟩
      · show (cutS z none (some (at71 z c))).length + (more71 c).length ≤ sizeLine
        omega
      · refine ⟨hz', ?_, rfl⟩
        show (cutS z none (some (at71 z c)) ++ more71 c).length + (cutS z (some (at71 z c)) none).length ≤ sizeLine
        omega
    | false =>
      refine ⟨hz', hs, _, hm, ?_⟩
      refine ⟨?_, ?_⟩
      · show (cutS z none (some (at71 z c))).length + (more71 c).length ≤ sizeLine
        omega
      · refine ⟨hz', ?_, rfl⟩
        show (cutS z none (some (at71 z c)) ++ more71 c).length + (cutS z (some (at71 z c + 1)) none).length ≤ sizeLine
        omega
theorem spoil_len (z : Str) (c : Int) (hz : z.length ≤ 1000) : (spoil71 z c).length ≤ 2001 := by
  have l1 : ∀ (a b : Option Int), (cutS z a b).length ≤ 1000 := fun a b => Nat.le_trans (cutS_length z a b) hz
  have l2 : (more71 c).length = 1 := by unfold more71; rw [sg_len]; rfl
  have a := l1 none (some (at71 z c))
  have b := l1 (some (at71 z c + 1)) none
  have b' := l1 (some (at71 z c)) none
  unfold spoil71
  cases (c.fmod 3 == 0) with
  | true => show (_ ++ _ : Str).length ≤ _; rw [app_len]; omega
  | false =>
    cases (c.fmod 3 == 1) with
    | true => show (_ ++ _ ++ _ : Str).length ≤ _; rw [app_len, app_len]; omega
    | false => show (_ ++ _ ++ _ : Str).length ≤ _; rw [app_len, app_len]; omega
theorem run_show_fraction : ∀ ds out, g_show_fraction ds out → fnP m_show_fraction 1 ds (fun o => o = out) := by
  rintro ds out ⟨f, rfl, ht, hb, rfl⟩
  refine ⟨rfl, rfl, ?_⟩
  unfold showF
  show bif f.b == 1 then _ else _
  cases h : (f.b == 1) with
  | true => exact ⟨sI_log ht, rfl⟩
  | false =>
    have a := sI_len ht
    have b := sI_len hb
    have sz := sz_big
    have sl : ("/" : Str).length = 1 := by decide +kernel
    have ab := app_len (sI f.t) ("/" : Str)
    refine ⟨sI_log ht, ?_, sI_log hb, ?_, rfl⟩
    · show (sI f.t).length + ("/" : Str).length ≤ sizeLine
      omega
    · show (sI f.t ++ ("/" : Str)).length + (sI f.b).length ≤ sizeLine
      omega
theorem run__law_read : ∀ ds out, g__law_read ds out → fnP m__law_read 2 ds (fun o => o = out) := by
  rintro ds out (⟨z, rfl, hz, rfl⟩ | ⟨rfl | ⟨i, rfl⟩, rfl⟩)
  · refine ⟨_, .inl ⟨z, rfl, hz, rfl⟩, ?_⟩
    cases pointL (sg z) with
    | some p => exact ⟨rfl, rfl⟩
    | none => exact ⟨true, rfl, fun v => ⟨rfl, rfl, rfl, rfl⟩⟩
  · exact ⟨_, .inr ⟨.inl rfl, rfl⟩, true, rfl, fun v => ⟨rfl, rfl, rfl, rfl⟩⟩
  · exact ⟨_, .inr ⟨.inr ⟨i, rfl⟩, rfl⟩, true, rfl, fun v => ⟨rfl, rfl, rfl, rfl⟩⟩
theorem run__law_right : ∀ ds out, g__law_right ds out → fnP m__law_right 3 ds (fun o => o = out) := by
  rintro ds out ⟨z, rfl, hz, rfl⟩
  have hz' : z.length ≤ sizeLine := Nat.le_trans (Nat.le_add_right _ 2) hz
  refine ⟨_, ⟨z, rfl, hz, rfl⟩, rfl, ?_⟩
  cases h : pointL (sg z) with
  | none =>
    refine ⟨rfl, ?_⟩
    refine ⟨_, .inl ⟨z, rfl, hz', rfl⟩, rfl, ?_⟩
    rw [h]
    refine ⟨shs _ _, shs _ _, ?_⟩
    show Out.ok (.dat (.bool (PyData.eqv (.str ("none" : Str)) (.str ("none" : Str))))) = _
    rw [eqv_str, decide_eq_true rfl]
  | some p =>
    refine ⟨rfl, ?_⟩
    refine ⟨_, .inl ⟨z, rfl, hz', rfl⟩, rfl, ?_⟩
    rw [h]
    exact ⟨_, ⟨p, rfl, rfl⟩, rfl, rfl⟩
theorem ten_pow : ((10 ^ 60 : Nat) : Int) = (10 ^ 60 : Int) := by decide
theorem top71_b (c : Int) : 0 ≤ top71 c ∧ top71 c < 10 ^ 60 := by
  unfold top71
  cases (c.fdiv 96).fmod 9 == 2 with
  | true =>
    show 0 ≤ bound71 _ ∧ bound71 _ < 10 ^ 60
    unfold bound71
    cases (c.fdiv 864).fmod 2 == 0 with
    | true => decide
    | false => decide
  | false =>
    have hs := size71_b (c.fdiv 4)
    show 0 ≤ (c.fdiv 24).fmod _ ∧ (c.fdiv 24).fmod _ < 10 ^ 60
    generalize size71 (c.fdiv 4) = s at hs
    generalize (c.fdiv 24) = x
    rw [Int.fmod_eq_emod_of_nonneg _ (by omega)]
    have h1 := Int.emod_nonneg x (show s ≠ 0 by omega)
    have h2 := Int.emod_lt_of_pos x (show 0 < s by omega)
    exact ⟨h1, by omega⟩
theorem bot71_b (c : Int) : 2 ≤ bot71 c ∧ bot71 c < 2 + 10 ^ 60 := by
  unfold bot71
  have hs := size71_b (c.fdiv 7)
  generalize size71 (c.fdiv 7) = s at hs
  generalize (c * 48271).fmod 2147483647 * (10 ^ 51 + 9) = x
  rw [Int.fmod_eq_emod_of_nonneg _ (by omega)]
  have h1 := Int.emod_nonneg x (show s - 8 ≠ 0 by omega)
  have h2 := Int.emod_lt_of_pos x (show 0 < s - 8 by omega)
  omega
theorem ex_cop {t b : Nat} (ht : 0 < t) : ∃ k, k ≤ t ∧ Nat.gcd t (b + k) = 1 := by
  have hr := Nat.mod_lt b ht
  have hq := Nat.div_add_mod b t
  have key : ∀ q : Nat, Nat.gcd t (1 + t * q) = 1 := fun q => by rw [Nat.gcd_add_mul_left_right, Nat.gcd_one_right]
  by_cases h1 : b % t ≤ 1
  · refine ⟨1 - b % t, by omega, ?_⟩
    have := key (b / t)
    rw [show b + (1 - b % t) = 1 + t * (b / t) by omega]
    exact this
  · refine ⟨t + 1 - b % t, by omega, ?_⟩
    have := key (b / t + 1)
    rw [Nat.mul_add, Nat.mul_one] at this
    rw [show b + (t + 1 - b % t) = 1 + (t * (b / t) + t) by omega]
    exact this
theorem cop_le (t : Nat) : ∀ n b, cop t n b ≤ b + n
  | 0, b => Nat.le_refl _
  | n + 1, b => by
    unfold cop
    split
    · omega
    · have := cop_le t n (b + 1); omega
theorem ten61 : (2 + 10 ^ 60 + 10 ^ 60 : Nat) < 10 ^ 61 := by decide
theorem ten61' : (2 + 10 ^ 60 + 10 ^ 60 : Nat) < 2 ^ 201 := by decide
theorem tenI {x : Int} (h0 : 0 ≤ x) (h : x < 10 ^ 60) : x.natAbs < 10 ^ 60 := by
  have : ((10 ^ 60 : Nat) : Int) = 10 ^ 60 := by decide
  omega
theorem bt_of10 {x : Int} (h0 : 0 ≤ x) (h : x < 10 ^ 60) : Bt 200 x := Nat.lt_trans (tenI h0 h) ten60
theorem sign_len (c : Int) : (sign71 c).length ≤ 1 := by
  unfold sign71
  cases top71 c == 0 with
  | true => show ("" : Str).length ≤ 1; decide +kernel
  | false =>
    cases c.fmod 2 == 0 with
    | true => show ("" : Str).length ≤ 1; decide +kernel
    | false => show ("-" : Str).length ≤ 1; decide +kernel
theorem cop_b (c : Int) : cop (top71 c).toNat (top71 c).toNat (bot71 c).toNat ≤ 2 + 10 ^ 60 + 10 ^ 60 := by
  have h1 := cop_le (top71 c).toNat (top71 c).toNat (bot71 c).toNat
  have h2 := top71_b c
  have h3 := bot71_b c
  have : ((10 ^ 60 : Nat) : Int) = 10 ^ 60 := by decide
  generalize (10 ^ 60 : Nat) = N at *
  omega
theorem num71_len (c : Int) : (num71 c).length ≤ 200 := by
  have s1 := sign_len c
  have s2 := sI_len (bt_of10 (top71_b c).1 (top71_b c).2)
  have s3 : (sI (cop (top71 c).toNat (top71 c).toNat (bot71 c).toNat : Nat)).length ≤ 62 := strI_len (by decide) (by rw [Int.natAbs_natCast]; exact Nat.lt_of_le_of_lt (cop_b c) ten61)
  have sl : ("/" : Str).length = 1 := by decide +kernel
  unfold num71
  cases ((c.fdiv 2).fmod 2 == 0 || top71 c == 0) with
  | true => show (_ ++ _ : Str).length ≤ _; rw [app_len]; omega
  | false => show (_ ++ _ ++ _ ++ _ : Str).length ≤ _; rw [app_len, app_len, app_len]; omega
def m_num_rest : MS := (mSeq (mIf (mOr (mTst (m2 fEq (m2 fMod (m2 fDiv (mVar 0) (mC (.int 2))) (mC (.int 2))) (mC (.int 0)))) (mTst (m2 fEq (mVar 1) (mC (.int 0))))) (mRet (mUp (m2 fAdd (mVar 2) (mL fStrI [(mVar 1)])))) mSkip)
    (mSeq (mSet 3 (mUp (m2 fAdd (mC (.int 2)) (m2 fMod (m2 fMul (m2 fMod (m2 fMul (mVar 0) (mC (.int 48271))) (mC (.int 2147483647))) (m2 fAdd (m2 fPow (mC (.int 10)) (mC (.int 51))) (mC (.int 9)))) (m2 fSub (mCall g__law_size [(m2 fDiv (mVar 0) (mC (.int 7)))]) (mC (.int 8)))))))
    (mSeq (mWhile (mTst (m2 fNe (mCall g__law_divisor [(mVar 1), (mVar 3)]) (mC (.int 1)))) (mSet 3 (mUp (m2 fAdd (mVar 3) (mC (.int 1))))))
    (mRet (mUp (m2 fAdd (m2 fAdd (m2 fAdd (mVar 2) (mL fStrI [(mVar 1)])) (mC (.str "/"))) (mL fStrI [(mVar 3)])))))))
theorem czd (c j : Int) (h : j ≠ 0) (h2 : j.natAbs.log2 < 9000) : CDivZ c j := ⟨h, h2⟩
theorem num_rest_ok (c : Int) (hc : Bt 1100000 c) : m_num_rest [some (.dat (.int c)), some (.dat (.int (top71 c))), some (.dat (.str (sign71 c))), none] (dsO fun o => o = .ok (.dat (.str (num71 c)))) := by
  have sz := sz_big
  obtain ⟨t0, t1⟩ := top71_b c
  have bt := bt_of10 t0 t1
  have s1 := sign_len c
  have s2 := sI_len bt
  have fin : (bif (c.fdiv 2).fmod 2 == 0 || top71 c == 0 then true else false) = true → (mRet (mUp (m2 fAdd (mVar 2) (mL fStrI [(mVar 1)])))) [some (.dat (.int c)), some (.dat (.int (top71 c))), some (.dat (.str (sign71 c))), none] (dsO fun o => o = .ok (.dat (.str (num71 c)))) := by
    intro h
    refine ⟨sI_log bt, ?_, ?_⟩
    · show (sign71 c).length + (sI (top71 c)).length ≤ sizeLine; omega
    · show Out.ok (.dat (.str (sign71 c ++ sI (top71 c)))) = _
      unfold num71
      cases hh : ((c.fdiv 2).fmod 2 == 0 || top71 c == 0) with
      | true => rfl
      | false => rw [hh] at h; cases h
  refine ⟨czd c 2 (by decide) (by decide), (by decide : (2 : Int) ≠ 0), rfl, rfl, ?_⟩
  show bif (c.fdiv 2).fmod 2 == 0 then _ else _
  cases h1 : ((c.fdiv 2).fmod 2 == 0) with
  | true => exact fin (by rw [h1]; rfl)
  | false =>
    refine ⟨rfl, rfl, ?_⟩
    show bif top71 c == 0 then _ else _
    cases h2 : (top71 c == 0) with
    | true => exact fin (by rw [h1, h2]; rfl)
    | false =>
      have h2' : top71 c ≠ 0 := beq_eq_false_iff_ne.mp h2
      have hs := size71_b (c.fdiv 7)
      have b1 : Bt 31 ((c * 48271).fmod 2147483647) := by
        obtain ⟨k, hk, e⟩ := fmod_range (c * 48271) 2147483647 (by decide)
        rw [show (c * 48271).fmod 2147483647 = (k : Int) from e]
        show (k : Int).natAbs < 2 ^ 31
        rw [Int.natAbs_natCast]; omega
      have b2 : Bt 170 ((10 : Int) ^ 51 + 9) := by show ((10 : Int) ^ 51 + 9).natAbs < 2 ^ 170; decide
      refine ⟨hc.cm (m := 16) (by show (48271 : Nat) < 2 ^ 16; decide) (by decide), (by decide : (2147483647 : Int) ≠ 0), cpow (by decide) (by decide) (by decide), b1.cm b2 (by decide), ?_⟩
      refine ⟨czd c 7 (by decide) (by decide), _, ⟨_, rfl, rfl⟩, rfl, ?_⟩
      refine ⟨(by show size71 (c.fdiv 7) - 8 ≠ 0; omega), ?_⟩
      have hb := bot71_b c
      have e1 : ((top71 c).toNat : Int) = top71 c := Int.toNat_of_nonneg t0
      have e2 : ((bot71 c).toNat : Int) = bot71 c := Int.toNat_of_nonneg (by omega)
      have tpos : 0 < (top71 c).toNat := by omega
      refine ⟨fun n ρ => ∃ b : Nat, ρ = [some (.dat (.int c)), some (.dat (.int (top71 c))), some (.dat (.str (sign71 c))), some (.dat (.int b))] ∧ cop (top71 c).toNat n b = cop (top71 c).toNat (top71 c).toNat (bot71 c).toNat ∧ ∃ k, k ≤ n ∧ Nat.gcd (top71 c).toNat (b + k) = 1,
        ⟨(top71 c).toNat, (bot71 c).toNat, ?_, rfl, ex_cop tpos⟩, ?_⟩
      · rw [e2]; rfl
      · rintro n ρ ⟨b, rfl, hcop, k, hk, hg⟩
        refine ⟨_, ⟨(top71 c).toNat, b, by rw [e1]; rfl, rfl⟩, rfl, rfl, rfl, ?_⟩
        show bif !(((Nat.gcd (top71 c).toNat b : Nat) : Int) == 1) then _ else _
        cases h3 : (((Nat.gcd (top71 c).toNat b : Nat) : Int) == 1) with
        | false =>
          have h3 : ((Nat.gcd (top71 c).toNat b : Nat) : Int) ≠ 1 := beq_eq_false_iff_ne.mp h3
          match n, k, hk, hg, hcop with
          | 0, k, hk, hg, _ =>
            have : k = 0 := by omega
            subst this
            exact absurd hg (by rw [Nat.add_zero]; omega)
          | n + 1, 0, hk, hg, _ => exact absurd hg (by rw [Nat.add_zero]; omega)
          | n + 1, k + 1, hk, hg, hcop =>
            refine ⟨n, by omega, b + 1, by show [some (EV.dat (.int c)), some (EV.dat (.int (top71 c))), some (EV.dat (.str (sign71 c))), some (EV.dat (.int ((b : Int) + 1)))] = _; rfl, ?_, k, by omega, by rw [show b + 1 + k = b + (k + 1) by omega]; exact hg⟩
            rw [← hcop]
            show _ = if Nat.gcd (top71 c).toNat b = 1 then b else cop (top71 c).toNat n (b + 1)
            rw [if_neg (by omega)]
        | true =>
          have h3 : ((Nat.gcd (top71 c).toNat b : Nat) : Int) = 1 := eq_of_beq h3
          have hbb : b = cop (top71 c).toNat (top71 c).toNat (bot71 c).toNat := by
            rw [← hcop]
            cases n with
            | zero => rfl
            | succ n => show b = if Nat.gcd (top71 c).toNat b = 1 then b else _; rw [if_pos (by omega)]
          have hle := cop_b c
          rw [← hbb] at hle
          have s3 : (sI (b : Nat)).length ≤ 62 := strI_len (by decide) (by rw [Int.natAbs_natCast]; exact Nat.lt_of_le_of_lt hle ten61)
          have sl : ("/" : Str).length = 1 := by decide +kernel
          have a1 := app_len (sign71 c) (sI (top71 c))
          have a2 := app_len (sign71 c ++ sI (top71 c)) ("/" : Str)
          refine ⟨sI_log bt, ?_, ?_, ?_⟩
          · show (sign71 c).length + (sI (top71 c)).length ≤ sizeLine; omega
          · show (sign71 c ++ sI (top71 c)).length + ("/" : Str).length ≤ sizeLine; omega
          · refine ⟨Nat.lt_trans (PySem.Flt.log2_lt_of (by decide) (show ((b : Nat) : Int).natAbs < 2 ^ 201 by rw [Int.natAbs_natCast]; exact Nat.lt_of_le_of_lt hle ten61')) (by decide), ?_, ?_⟩
            · show (sign71 c ++ sI (top71 c) ++ ("/" : Str)).length + (sI (b : Nat)).length ≤ sizeLine; omega
            · show Out.ok (.dat (.str (sign71 c ++ sI (top71 c) ++ ("/" : Str) ++ sI (b : Nat)))) = _
              unfold num71
              rw [h1, h2, ← hbb]; rfl
theorem run__law_number_text : ∀ ds out, g__law_number_text ds out → fnP m__law_number_text 4 ds (fun o => o = out) := by
  rintro ds out ⟨c, rfl, hc, rfl⟩
  have hs := size71_b (c.fdiv 4)
  have key : (mSeq (mSet 2 (mUp (m2 fIx (mLst [(mC (.str "")), (mC (.str "-"))]) (m2 fMod (mVar 0) (mC (.int 2))))))
      (mSeq (mIf (mTst (m2 fEq (mVar 1) (mC (.int 0)))) (mSet 2 (mUp (mC (.str "")))) mSkip) m_num_rest)) [some (.dat (.int c)), some (.dat (.int (top71 c))), none, none] (dsO fun o => o = .ok (.dat (.str (num71 c)))) := by
    have fin := num_rest_ok c hc
    refine ⟨(by decide : (2 : Int) ≠ 0), ?_⟩
    obtain ⟨k, hk, e⟩ := fmod_range c 2 (by decide)
    have e : c.fmod 2 = (k : Int) := e
    show kAt [.str "", .str "-"] (c.fmod 2) _
    unfold sign71 at fin
    rw [e] at fin ⊢
    match k, hk with
    | 0, _ =>
      refine ⟨rfl, rfl, ?_⟩
      show bif top71 c == 0 then _ else _
      cases h : (top71 c == 0) with
      | true => rw [h] at fin; exact fin
      | false => rw [h] at fin; exact fin
    | 1, _ =>
      refine ⟨rfl, rfl, ?_⟩
      show bif top71 c == 0 then _ else _
      cases h : (top71 c == 0) with
      | true => rw [h] at fin; exact fin
      | false => rw [h] at fin; exact fin
    | k + 2, h => exact absurd h (by omega)
  refine ⟨czd c 24 (by decide) (by decide), czd c 4 (by decide) (by decide), _, ⟨_, rfl, rfl⟩, rfl, (by show size71 (c.fdiv 4) ≠ 0; omega), ?_⟩
  refine ⟨czd c 96 (by decide) (by decide), (by decide : (9 : Int) ≠ 0), rfl, rfl, ?_⟩
  show bif (c.fdiv 96).fmod 9 == 2 then _ else _
  unfold top71 at key
  cases h : ((c.fdiv 96).fmod 9 == 2) with
  | true =>
    rw [h] at key
    exact ⟨czd c 864 (by decide) (by decide), _, ⟨_, rfl, rfl⟩, rfl, key⟩
  | false => rw [h] at key; exact key
theorem cell_bt {ns : List Int} (h : ∀ z ∈ ns, Builtin.Int.intBits z ≤ 1048576) (k : Nat) : Bt 1048577 (cellAt ns k) := by
  have gen : ∀ z : Int, Builtin.Int.intBits z ≤ 1048576 → Bt 1048577 z := fun z hz => by
    unfold Builtin.Int.intBits at hz
    show z.natAbs < 2 ^ 1048577
    by_cases h0 : z.natAbs = 0
    · rw [h0]; exact Nat.two_pow_pos _
    · have : z.natAbs.log2 < 1048577 := by
        split at hz
        · rename_i hh
          simp at hh
          omega
        · omega
      exact (Nat.log2_lt h0).mp this
  unfold cellAt
  rw [List.getD_eq_getElem?_getD]
  cases e : ns[k]? with
  | none => exact gen 0 (by decide)
  | some z => exact gen z (h z (List.mem_of_getElem? e))
theorem abs_bt {n : Nat} {i : Int} (h : Bt n i) : Bt n (if i < 0 then -i else i) := by
  unfold Bt at *
  split
  · rw [Int.natAbs_neg]; exact h
  · exact h
theorem Bt.up {n m : Nat} {i : Int} (h : Bt n i) (hm : n ≤ m) : Bt m i := h.mono hm
theorem rngD_get {lo : Int} {n k : Nat} {x : PyData} (h : (rngD lo n)[k]? = some x) : k < n ∧ x = .int (lo + (k : Nat)) := by
  unfold rngD at h
  rw [List.getElem?_map] at h
  cases e : (List.range n)[k]? with
  | none => rw [e] at h; cases h
  | some j =>
    rw [e] at h
    have hk := (List.getElem?_eq_some_iff.mp e).1
    rw [List.length_range] at hk
    rw [List.getElem?_range hk] at e
    cases e
    cases h
    exact ⟨hk, rfl⟩
theorem tail71 {f : Fr} {o0 o1 o2 o4 o5 : Option EV} (ht : Bt 200 f.t) (hb : Bt 200 f.b) (h1 : 1 ≤ f.b) : (mSeq (mSet 4 (mUp (mL fStrI [(m2 fIx (mVar 3) (mC (.int 0)))])))
    (mSeq (mIf (mTst (m2 fGt (m2 fIx (mVar 3) (mC (.int 1))) (mC (.int 1)))) (mSet 4 (mUp (m2 fAdd (m2 fAdd (mVar 4) (mC (.str "/"))) (mL fStrI [(m2 fIx (mVar 3) (mC (.int 1)))])))) mSkip)
    (mSeq (mSet 5 (mUp (mCall g_show_fraction [(mVar 3)])))
    (mRet (mUp (mAndV (m1 (fIsi "str") (mVar 5)) (m2 fEq (mVar 5) (mVar 4)))))))) [o0, o1, o2, some (.dat f.d), o4, o5] (dsO fun o => o = .ok (.dat (.bool true))) := by
  have a := sI_len ht
  have b := sI_len hb
  have sz := sz_big
  have sl : ("/" : Str).length = 1 := by decide +kernel
  have ab := app_len (sI f.t) ("/" : Str)
  refine ⟨sI_log ht, ?_⟩
  show bif decide (1 < f.b) then _ else _
  cases h : decide (1 < f.b) with
  | true =>
    have h := of_decide_eq_true h
    refine ⟨?_, sI_log hb, ?_, ?_⟩
    · show (sI f.t).length + ("/" : Str).length ≤ sizeLine; omega
    · show (sI f.t ++ ("/" : Str)).length + (sI f.b).length ≤ sizeLine; omega
    · refine ⟨_, ⟨f, rfl, ht, hb, rfl⟩, rfl, ?_⟩
      refine ⟨shs _ _, shs _ _, ?_⟩
      show Out.ok (.dat (.bool (PyData.eqv (.str (showF f)) (.str (sI f.t ++ ("/" : Str) ++ sI f.b))))) = _
      have e : showF f = sI f.t ++ ("/" : Str) ++ sI f.b := by
        unfold showF
        rw [beq_eq_false_iff_ne.mpr (show f.b ≠ 1 by omega)]; rfl
      rw [e, eqv_str, decide_eq_true rfl]
  | false =>
    have h := of_decide_eq_false h
    refine ⟨_, ⟨f, rfl, ht, hb, rfl⟩, rfl, ?_⟩
    refine ⟨shs _ _, shs _ _, ?_⟩
    show Out.ok (.dat (.bool (PyData.eqv (.str (showF f)) (.str (sI f.t))))) = _
    have e : showF f = sI f.t := by
      unfold showF
      rw [show f.b = 1 by omega]; rfl
    rw [e, eqv_str, decide_eq_true rfl]
theorem run_law71 : ∀ ds out, g_law71 ds out → fnP m_law71 6 ds (fun o => o = out) := by
  rintro ds out ⟨ns, rfl, hb, rfl⟩
  have sz := sz_big
  have hc := cell_bt hb
  have ab : ∀ k, Bt 1100000 (if cellAt ns k < 0 then -cellAt ns k else cellAt ns k) := fun k => (abs_bt (hc k)).mono (by decide)
  have sl : ("," : Str).length = 1 := by decide +kernel
  have n0 := num71_len (if cellAt ns 0 < 0 then -cellAt ns 0 else cellAt ns 0)
  have n1 := num71_len (if cellAt ns 1 < 0 then -cellAt ns 1 else cellAt ns 1)
  have a0 := app_len (num71 (if cellAt ns 0 < 0 then -cellAt ns 0 else cellAt ns 0)) ("," : Str)
  have a1 := app_len (num71 (if cellAt ns 0 < 0 then -cellAt ns 0 else cellAt ns 0) ++ ("," : Str)) (num71 (if cellAt ns 1 < 0 then -cellAt ns 1 else cellAt ns 1))
  refine ⟨_, ⟨ns, 0, rfl, rfl⟩, rfl, _, ⟨_, rfl, ab 0, rfl⟩, rfl, ?_⟩
  refine ⟨?_, ?_⟩
  · show (num71 _).length + ("," : Str).length ≤ sizeLine; omega
  refine ⟨_, ⟨ns, 1, rfl, rfl⟩, rfl, _, ⟨_, rfl, ab 1, rfl⟩, rfl, ?_⟩
  refine ⟨?_, ?_⟩
  · show (num71 _ ++ ("," : Str)).length + (num71 _).length ≤ sizeLine; omega
  generalize hz : num71 (if cellAt ns 0 < 0 then -cellAt ns 0 else cellAt ns 0) ++ ("," : Str) ++ num71 (if cellAt ns 1 < 0 then -cellAt ns 1 else cellAt ns 1) = z
  rw [hz] at a1
  have lz : z.length ≤ 1000 := by omega
  have lz2 : z.length + 2 ≤ sizeLine := by omega
  have lo : ∀ c, (odd71 c).length + 2 ≤ sizeLine := fun c => by have := odd71_len c; omega
  refine ⟨_, ⟨z, rfl, lz2, rfl⟩, rfl, ?_⟩
  refine ⟨_, ⟨ns, 2, rfl, rfl⟩, rfl, _, ⟨_, rfl, rfl⟩, rfl, _, ⟨_, rfl, lo _, rfl⟩, rfl, ?_⟩
  refine ⟨⟨by decide, by decide⟩, fun k ρ => ∃ o, ρ = [some (.dat (lInts ns)), some (.dat (.str z)), o, none, none, none], ⟨none, rfl⟩, ?_, ?_⟩
  · rintro k x ρ hx ⟨o, rfl⟩
    have step : ∀ (j : Nat) (D : DS), (∀ ρ, (∃ o, ρ = [some (.dat (lInts ns)), some (.dat (.str z)), o, none, none, none]) → D.nx ρ) → (mIf (mNot (mTru (mCall g__law_right [(mCall g__law_spoilt [(mVar 1), (m2 fAdd (mL fAbs [(mCall g__law_cell_at [(mVar 0), (m2 fAdd (mC (.int 3)) (mVar 2))])]) (mVar 2))])]))) (mRet (mUp (mC (.bool false)))) mSkip)
        [some (.dat (lInts ns)), some (.dat (.str z)), some (.dat (.int (j : Int))), none, none, none] D := by
      intro j D h
      refine ⟨_, ⟨ns, 3 + j, by show [lInts ns, PyData.int (3 + (j : Int))] = _; rfl, rfl⟩, rfl, ?_⟩
      refine ⟨_, ⟨z, _, rfl, lz, rfl⟩, rfl, _, ⟨_, rfl, ?_, rfl⟩, rfl, h _ ⟨_, rfl⟩⟩
      have := spoil_len z ((if cellAt ns (3 + j) < 0 then -cellAt ns (3 + j) else cellAt ns (3 + j)) + (j : Int)) lz
      omega
    obtain ⟨_, rfl⟩ := rngD_get hx
    rw [Int.zero_add]
    exact step k _ fun ρ h => h
  · rintro ρ ⟨o, rfl⟩
    refine ⟨_, .inr ⟨.inr ⟨5, rfl⟩, rfl⟩, rfl, shs _ _, shs _ _, ?_⟩
    refine ⟨_, .inr ⟨.inl rfl, rfl⟩, rfl, shs _ _, shs _ _, ?_⟩
    refine ⟨_, ⟨z, rfl, lz2, rfl⟩, rfl, ?_⟩
    have n8 := num71_len (if cellAt ns 8 < 0 then -cellAt ns 8 else cellAt ns 8)
    refine ⟨_, ⟨ns, 8, rfl, rfl⟩, rfl, _, ⟨_, rfl, ab 8, rfl⟩, rfl, _, ⟨_, rfl, by omega, rfl⟩, rfl, ?_⟩
    cases hf : fracL (sg (num71 (if cellAt ns 8 < 0 then -cellAt ns 8 else cellAt ns 8))) with
    | none =>
      refine ⟨rfl, ?_⟩
      exact tail71 (f := ⟨-1, 2⟩) (by show (1 : Nat) < 2 ^ 200; decide) (by show (2 : Nat) < 2 ^ 200; decide) (by show (1 : Int) ≤ 2; decide)
    | some f =>
      obtain ⟨h1, h2, h3⟩ := fr_bt hf
      refine ⟨rfl, ?_⟩
      exact tail71 h1 h2 h3
end Ac
set_option Elab.async false
set_option linter.all false
set_option maxRecDepth 100000
set_option maxHeartbeats 0
namespace Hd
open PySem PySem.Spec PyProof.Rows L2
def top (i : Nat) : Stmt := PySem.Challenge.rw_acre_k71_numbers_and_points.prog.main.body.getD i (.Pass ⟨0, 0, 0, 0⟩)
def fn : List He.DefD := [
  ⟨("is_whole", none), "is_whole", "is_whole", defArgs (top 9), defBody (top 9), defScope (top 9), [], []⟩,
  ⟨("divisor", none), "divisor", "divisor", defArgs (top 10), defBody (top 10), defScope (top 10), [], []⟩,
  ⟨("lowest", none), "lowest", "lowest", defArgs (top 12), defBody (top 12), defScope (top 12), [], []⟩,
  ⟨("fraction", none), "fraction", "fraction", defArgs (top 13), defBody (top 13), defScope (top 13), [], []⟩,
  ⟨("shortest", none), "shortest", "shortest", defArgs (top 15), defBody (top 15), defScope (top 15), [], []⟩,
  ⟨("point", none), "point", "point", defArgs (top 16), defBody (top 16), defScope (top 16), [], []⟩,
  ⟨("figures_of", none), "figures_of", "figures_of", defArgs (top 20), defBody (top 20), defScope (top 20), [], []⟩,
  ⟨("whole_of", none), "whole_of", "whole_of", defArgs (top 21), defBody (top 21), defScope (top 21), [], []⟩,
  ⟨("read_fraction", none), "read_fraction", "read_fraction", defArgs (top 22), defBody (top 22), defScope (top 22), [], []⟩,
  ⟨("read_point", none), "read_point", "read_point", defArgs (top 23), defBody (top 23), defScope (top 23), [], []⟩,
  ⟨("show_fraction", none), "show_fraction", "show_fraction", defArgs (top 24), defBody (top 24), defScope (top 24), [], []⟩,
  ⟨("_law_cell_at", none), "_law_cell_at", "_law_cell_at", defArgs (top 26), defBody (top 26), defScope (top 26), [], []⟩,
  ⟨("_law_whole", none), "_law_whole", "_law_whole", defArgs (top 27), defBody (top 27), defScope (top 27), [], []⟩,
  ⟨("_law_alike", none), "_law_alike", "_law_alike", defArgs (top 28), defBody (top 28), defScope (top 28), [], []⟩,
  ⟨("_law_figures", none), "_law_figures", "_law_figures", defArgs (top 29), defBody (top 29), defScope (top 29), [], []⟩,
  ⟨("_law_divisor", none), "_law_divisor", "_law_divisor", defArgs (top 30), defBody (top 30), defScope (top 30), [], []⟩,
  ⟨("_law_number", none), "_law_number", "_law_number", defArgs (top 31), defBody (top 31), defScope (top 31), [], []⟩,
  ⟨("_law_point", none), "_law_point", "_law_point", defArgs (top 32), defBody (top 32), defScope (top 32), [], []⟩,
  ⟨("_law_bound", none), "_law_bound", "_law_bound", defArgs (top 33), defBody (top 33), defScope (top 33), [], []⟩,
  ⟨("_law_size", none), "_law_size", "_law_size", defArgs (top 34), defBody (top 34), defScope (top 34), [], []⟩,
  ⟨("_law_number_text", none), "_law_number_text", "_law_number_text", defArgs (top 35), defBody (top 35), defScope (top 35), [], []⟩,
  ⟨("_law_spoilt", none), "_law_spoilt", "_law_spoilt", defArgs (top 36), defBody (top 36), defScope (top 36), [], []⟩,
  ⟨("_law_odd", none), "_law_odd", "_law_odd", defArgs (top 37), defBody (top 37), defScope (top 37), [], []⟩,
  ⟨("_law_read", none), "_law_read", "_law_read", defArgs (top 38), defBody (top 38), defScope (top 38), [], []⟩,
  ⟨("_law_right", none), "_law_right", "_law_right", defArgs (top 39), defBody (top 39), defScope (top 39), [], []⟩,
  ⟨("law", none), "law", "law", defArgs (top 40), defBody (top 40), defScope (top 40), [], []⟩]
def fx : List Ac.Fx := [
  .exC "NoNumber", .isi "NoNumber" "NoName" false, .isi "NoNumber" "NoRow" false, .isi "NoNumber" "NoNumber" true, .isi "NoNumber" "NoPoint" false, .isi "NoNumber" "NoStretch" false, .isT "NoNumber" "ValueError" true, .isi "NoNumber" "AcreError" true, .exC "NoPoint", .isi "NoPoint" "NoName" false, .isi "NoPoint" "NoRow" false, .isi "NoPoint" "NoNumber" false, .isi "NoPoint" "NoPoint" true, .isi "NoPoint" "NoStretch" false, .isT "NoPoint" "ValueError" true, .isi "NoPoint" "AcreError" true, .exC "NoStretch", .isi "NoStretch" "NoName" false, .isi "NoStretch" "NoRow" false, .isi "NoStretch" "NoNumber" false, .isi "NoStretch" "NoPoint" false, .isi "NoStretch" "NoStretch" true, .isT "NoStretch" "ValueError" true, .isi "NoStretch" "AcreError" true, .exC "NoName", .isi "NoName" "NoName" true, .isi "NoName" "NoRow" false, .isi "NoName" "NoNumber" false, .isi "NoName" "NoPoint" false, .isi "NoName" "NoStretch" false, .isT "NoName" "ValueError" true, .isi "NoName" "AcreError" true, .exC "NoText", .isi "NoText" "NoName" false, .isi "NoText" "NoRow" false, .isi "NoText" "NoNumber" false, .isi "NoText" "NoPoint" false, .isi "NoText" "NoStretch" false, .isT "NoText" "ValueError" true, .isi "NoText" "AcreError" true, .exC "NoRow", .isi "NoRow" "NoName" false, .isi "NoRow" "NoRow" true, .isi "NoRow" "NoNumber" false, .isi "NoRow" "NoPoint" false, .isi "NoRow" "NoStretch" false, .isT "NoRow" "ValueError" true, .isi "NoRow" "AcreError" true]
def fa : List He.Fa := [
  .glo "AcreError", .exc "AcreError", .glo "NoNumber", .exc "NoNumber", .glo "NoPoint", .exc "NoPoint", .glo "NoStretch", .exc "NoStretch", .glo "NoName", .exc "NoName", .glo "NoText", .exc "NoText", .glo "NoRow", .exc "NoRow", .glo "is_whole", .glo "divisor", .glo "lowest", .glo "fraction", .glo "shortest", .glo "point", .str "FIGURES" "0123456789", .int "MOST" 60, .glo "figures_of", .glo "whole_of", .glo "read_fraction", .glo "read_point", .glo "show_fraction", .glo "_law_cell_at", .glo "_law_whole", .glo "_law_alike", .glo "_law_figures", .glo "_law_divisor", .glo "_law_number", .glo "_law_point", .glo "_law_bound", .glo "_law_size", .glo "_law_number_text", .glo "_law_spoilt", .glo "_law_odd", .glo "_law_read", .glo "_law_right", .glo "law", .exm "NoNumber" "NoText" false, .exm "NoPoint" "NoText" false, .exm "NoStretch" "NoText" false, .exm "NoName" "NoText" false, .exm "NoText" "NoText" true, .exm "NoRow" "NoText" false, .free "len", .free "abs", .free "isinstance", .free "range", .free "str", .free "int", .free "list", .free "bool", .free "tuple", .free "ValueError"]
abbrev R : PySem.W.OpenRow := PySem.W.OpenLaw.row PySem.Challenge.rw_acre_k71_numbers_and_points
abbrev hk : PySem.W.Hook := Ac.hookX 4 fa fn fx
def ob (s : PySem.W.SharedT) : Ac.AlX := Ac.obsXG 4 fa fn fx (HandSHeadRun.getT s)
theorem ob_eq (s : PySem.W.SharedT) : ob s = hk.obs s.abs := Ac.obsXG_eq (HandSHeadRun.getT_eq s)
def loose0 : List PySem.Str := ["AcreError", "NoNumber", "NoPoint", "NoStretch", "NoName", "NoText", "NoRow", "is_whole", "divisor", "lowest", "fraction", "shortest", "point", "FIGURES", "MOST", "figures_of", "whole_of", "read_fraction", "read_point", "show_fraction", "_law_cell_at", "_law_whole", "_law_alike", "_law_figures", "_law_divisor", "_law_number", "_law_point", "_law_bound", "_law_size", "_law_number_text"]
def loose1 : List PySem.Str := ["_law_spoilt", "_law_odd", "_law_read", "_law_right"]
def loose : List PySem.Str := loose0 ++ loose1
theorem run (w : World) : HandSHeadRun.RunEq R (PySem.W.view R.prog [40]) hk ob 4000 loose w := by
  intro os
  kernel_rfl
end Hd
set_option Elab.async false
set_option linter.all false
set_option maxRecDepth 100000
set_option maxHeartbeats 2000000
namespace Ac
open PySem PySem.Spec PyProof.Rows L2
section
variable {P : Program} {w : World} {K : PySem.W.Frag} {mg : Str → Option Value} {base h : Heap} {fa : Addr}
theorem sc_divisor : FnScope ["one", "other", "here", "there", "rest"] ["one", "other"] (defScope (Hd.top 10)) := ⟨rfl, rfl, rfl, by decide +kernel, rfl, by decide +kernel, by decide +kernel⟩
theorem cl_divisor (KX : K.In h) (G : h.Ns mainGlobals mg) (c : SaysX Hd.fa Hd.fn Hd.fx K) : Cl P w K mg base 1 "divisor" g_divisor := by
  obtain ⟨fd, F⟩ := c.d.def_ 1 rfl
  have q_abs : mg "abs" = none := He.free_ok KX G (c.d.fact 49 rfl)
  have S := sc_divisor
  refine cl_mk (m := m_divisor) F (He.glo_ok KX G (c.d.fact 15 rfl)) (F.bindsN fun _ _ _ _ _ _ us hl => match us, hl with | [_, _], _ => rfl) S ar_divisor (fun cdv A outer s H E hr => ?_) run_divisor
  exact (tb_cons (ts_set 2 (TrN.up (tn_abs (by rfl) q_abs (ta_cons (tn_var 0) ta_nil))) S.nd)
    (tb_cons (ts_set 3 (TrN.up (tn_abs (by rfl) q_abs (ta_cons (tn_var 1) ta_nil))) S.nd)
    (tb_cons (ts_while poOf (tt_cmp cm_gt (tn_var 3) tn_int (nomark _)) (tb_cons (ts_set 4 (TrN.up (tn_mod (tn_var 2) (tn_var 3))) S.nd)
    (tb_cons (ts_set 2 (TrN.up (tn_var 3)) S.nd)
    (tb_one (ts_set 3 (TrN.up (tn_var 4)) S.nd)))))
    (tb_one (ts_ret (TrN.up (tn_var 2)))))))
theorem sc_is_whole : FnScope ["thing"] ["thing"] (defScope (Hd.top 9)) := ⟨rfl, rfl, rfl, by decide +kernel, rfl, by decide +kernel, by decide +kernel⟩
theorem cl_is_whole (KX : K.In h) (G : h.Ns mainGlobals mg) (c : SaysX Hd.fa Hd.fn Hd.fx K) : Cl P w K mg base 1 "is_whole" g_is_whole := by
  obtain ⟨fd, F⟩ := c.d.def_ 0 rfl
  have q_isinstance : mg "isinstance" = none := He.free_ok KX G (c.d.fact 50 rfl)
  have q_int : mg "int" = none := He.free_ok KX G (c.d.fact 53 rfl)
  have q_bool : mg "bool" = none := He.free_ok KX G (c.d.fact 55 rfl)
  have S := sc_is_whole
  refine cl_mk (m := m_is_whole) F (He.glo_ok KX G (c.d.fact 14 rfl)) (F.bindsN fun _ _ _ _ _ _ us hl => match us, hl with | [_], _ => rfl) S ar_is_whole (fun cdv A outer s H E hr => ?_) run_is_whole
  exact (tb_one (ts_ret (TrN.up (tn_and (tn_isi "int" (by rfl) q_isinstance (by rfl) q_int (tn_var 0)) (tn_one (tn_not (tn_isi "bool" (by rfl) q_isinstance (by rfl) q_bool (tn_var 0))))))))
theorem sc_lowest : FnScope ["top", "bottom", "by"] ["top", "bottom"] (defScope (Hd.top 12)) := ⟨rfl, rfl, rfl, by decide +kernel, rfl, by decide +kernel, by decide +kernel⟩
theorem cl_lowest (KX : K.In h) (G : h.Ns mainGlobals mg) (c : SaysX Hd.fa Hd.fn Hd.fx K) : Cl P w K mg base 2 "lowest" g_lowest := by
  obtain ⟨fd, F⟩ := c.d.def_ 2 rfl
  have hc_divisor : Cl P w K mg base 1 "divisor" g_divisor := cl_divisor KX G c
  have S := sc_lowest
  refine cl_mk (m := m_lowest) F (He.glo_ok KX G (c.d.fact 16 rfl)) (F.bindsN fun _ _ _ _ _ _ us hl => match us, hl with | [_, _], _ => rfl) S ar_lowest (fun cdv A outer s H E hr => ?_) run_lowest
  exact (tb_cons (ts_set 2 (TrN.up (tn_call (hc_divisor) (hr.mono (by decide)) (by rfl) tkOf (ta_cons (tn_var 0) (ta_cons (tn_var 1) ta_nil)))) S.nd)
    (tb_cons (ts_if (tt_cmp cm_lt (tn_var 1) tn_int (nomark _)) (tb_one (ts_set 2 (TrN.up (tn_sub tn_int (tn_var 2))) S.nd)) tb_nil)
    (tb_one (ts_ret (TrN.up (tn_tup (ta_cons (tn_fdiv (tn_var 0) (tn_var 2)) (ta_cons (tn_fdiv (tn_var 1) (tn_var 2)) ta_nil))))))))
theorem sc_fraction : FnScope ["top", "bottom"] ["top", "bottom"] (defScope (Hd.top 13)) := ⟨rfl, rfl, rfl, by decide +kernel, rfl, by decide +kernel, by decide +kernel⟩
theorem cl_fraction (KX : K.In h) (G : h.Ns mainGlobals mg) (c : SaysX Hd.fa Hd.fn Hd.fx K) : Cl P w K mg base 3 "fraction" g_fraction := by
  obtain ⟨fd, F⟩ := c.d.def_ 3 rfl
  have xc_NoNumber : XcOk K mg "NoNumber" := ⟨_, He.glo_ok KX G (c.d.fact 2 rfl), He.exc_ok (c.d.fact 3 rfl)⟩
  have hc_is_whole : Cl P w K mg base 1 "is_whole" g_is_whole := cl_is_whole KX G c
  have hc_lowest : Cl P w K mg base 2 "lowest" g_lowest := cl_lowest KX G c
  have S := sc_fraction
  refine cl_mk (m := m_fraction) F (He.glo_ok KX G (c.d.fact 17 rfl)) (F.bindsN fun _ _ _ _ _ _ us hl => match us, hl with | [_, _], _ => rfl) S ar_fraction (fun cdv A outer s H E hr => ?_) run_fraction
  exact (tb_cons (ts_if (TrW.tt (tw_or (tt_not (tt_val (tn_call (hc_is_whole) (hr.mono (by decide)) (by rfl) tkOf (ta_cons (tn_var 0) ta_nil)))) (tw_or (tt_not (tt_val (tn_call (hc_is_whole) (hr.mono (by decide)) (by rfl) tkOf (ta_cons (tn_var 1) ta_nil)))) (tw_or1 (tt_cmp (cm_eq (huOf hr)) (tn_var 1) tn_int (nomark _)))))) (tb_one (ts_raise rfl tkOf xc_NoNumber (by rfl))) tb_nil)
    (tb_one (ts_ret (TrN.up (tn_call (hc_lowest) (hr.mono (by decide)) (by rfl) tkOf (ta_cons (tn_var 0) (ta_cons (tn_var 1) ta_nil)))))))
theorem sc_shortest : FnScope ["x", "y", "w", "by"] ["x", "y", "w"] (defScope (Hd.top 15)) := ⟨rfl, rfl, rfl, by decide +kernel, rfl, by decide +kernel, by decide +kernel⟩
theorem cl_shortest (KX : K.In h) (G : h.Ns mainGlobals mg) (c : SaysX Hd.fa Hd.fn Hd.fx K) : Cl P w K mg base 2 "shortest" g_shortest := by
  obtain ⟨fd, F⟩ := c.d.def_ 4 rfl
  have hc_divisor : Cl P w K mg base 1 "divisor" g_divisor := cl_divisor KX G c
  have S := sc_shortest
  refine cl_mk (m := m_shortest) F (He.glo_ok KX G (c.d.fact 18 rfl)) (F.bindsN fun _ _ _ _ _ _ us hl => match us, hl with | [_, _, _], _ => rfl) S ar_shortest (fun cdv A outer s H E hr => ?_) run_shortest
  exact (tb_cons (ts_set 3 (TrN.up (tn_call (hc_divisor) (hr.mono (by decide)) (by rfl) tkOf (ta_cons (tn_call (hc_divisor) (hr.mono (by decide)) (by rfl) tkOf (ta_cons (tn_var 0) (ta_cons (tn_var 1) ta_nil))) (ta_cons (tn_var 2) ta_nil)))) S.nd)
    (tb_cons (ts_if (tt_cmp cm_lt (tn_var 2) tn_int (nomark _)) (tb_one (ts_set 3 (TrN.up (tn_sub tn_int (tn_var 3))) S.nd)) tb_nil)
    (tb_one (ts_ret (TrN.up (tn_tup (ta_cons (tn_fdiv (tn_var 0) (tn_var 3)) (ta_cons (tn_fdiv (tn_var 1) (tn_var 3)) (ta_cons (tn_fdiv (tn_var 2) (tn_var 3)) ta_nil)))))))))
theorem sc_point : FnScope ["x", "y", "w"] ["x", "y", "w"] (defScope (Hd.top 16)) := ⟨rfl, rfl, rfl, by decide +kernel, rfl, by decide +kernel, by decide +kernel⟩
theorem cl_point (KX : K.In h) (G : h.Ns mainGlobals mg) (c : SaysX Hd.fa Hd.fn Hd.fx K) : Cl P w K mg base 3 "point" g_point := by
  obtain ⟨fd, F⟩ := c.d.def_ 5 rfl
  have xc_NoPoint : XcOk K mg "NoPoint" := ⟨_, He.glo_ok KX G (c.d.fact 4 rfl), He.exc_ok (c.d.fact 5 rfl)⟩
  have hc_is_whole : Cl P w K mg base 1 "is_whole" g_is_whole := cl_is_whole KX G c
  have hc_shortest : Cl P w K mg base 2 "shortest" g_shortest := cl_shortest KX G c
  have S := sc_point
  refine cl_mk (m := m_point) F (He.glo_ok KX G (c.d.fact 19 rfl)) (F.bindsN fun _ _ _ _ _ _ us hl => match us, hl with | [_, _, _], _ => rfl) S ar_point (fun cdv A outer s H E hr => ?_) run_point
  exact (tb_cons (ts_if (TrW.tt (tw_or (tt_not (tt_val (tn_call (hc_is_whole) (hr.mono (by decide)) (by rfl) tkOf (ta_cons (tn_var 0) ta_nil)))) (tw_or (tt_not (tt_val (tn_call (hc_is_whole) (hr.mono (by decide)) (by rfl) tkOf (ta_cons (tn_var 1) ta_nil)))) (tw_or (tt_not (tt_val (tn_call (hc_is_whole) (hr.mono (by decide)) (by rfl) tkOf (ta_cons (tn_var 2) ta_nil)))) (tw_or1 (tt_cmp (cm_eq (huOf hr)) (tn_var 2) tn_int (nomark _))))))) (tb_one (ts_raise rfl tkOf xc_NoPoint (by rfl))) tb_nil)
    (tb_one (ts_ret (TrN.up (tn_call (hc_shortest) (hr.mono (by decide)) (by rfl) tkOf (ta_cons (tn_var 0) (ta_cons (tn_var 1) (ta_cons (tn_var 2) ta_nil))))))))
theorem sc_figures_of : FnScope ["text", "sign"] ["text"] (defScope (Hd.top 20)) := ⟨rfl, rfl, rfl, by decide +kernel, rfl, by decide +kernel, by decide +kernel⟩
theorem cl_figures_of (KX : K.In h) (G : h.Ns mainGlobals mg) (c : SaysX Hd.fa Hd.fn Hd.fx K) : Cl P w K mg base 1 "figures_of" g_figures_of := by
  obtain ⟨fd, F⟩ := c.d.def_ 6 rfl
  have q_len : mg "len" = none := He.free_ok KX G (c.d.fact 48 rfl)
  have q_int : mg "int" = none := He.free_ok KX G (c.d.fact 53 rfl)
  have q_FIGURES : ∃ t, mg "FIGURES" = some (.str "0123456789" t) := He.str_ok KX G (c.d.fact 20 rfl)
  have q_MOST : ∃ t, mg "MOST" = some (.int 60 t) := He.int_ok KX G (c.d.fact 21 rfl)
  have xc_NoText : XcOk K mg "NoText" := ⟨_, He.glo_ok KX G (c.d.fact 10 rfl), He.exc_ok (c.d.fact 11 rfl)⟩
  have S := sc_figures_of
  refine cl_mk (m := m_figures_of) F (He.glo_ok KX G (c.d.fact 22 rfl)) (F.bindsN fun _ _ _ _ _ _ us hl => match us, hl with | [_], _ => rfl) S ar_figures_of (fun cdv A outer s H E hr => ?_) run_figures_of
  exact (tb_cons (ts_if (TrW.tt (tw_or (tt_not (tt_chain cm_le cm_le tn_int (tn_len (by rfl) q_len (ta_cons (tn_var 0) ta_nil)) (tn_globI (by rfl) q_MOST.choose_spec ⟨_, rfl⟩))) (tw_or1 (TrW.tt (tw_and (tt_cmp (cm_eq (huOf hr)) (tn_ix (tn_var 0) tn_int) tn_str (nomark _)) (tw_and1 (tt_cmp (cm_ne (huOf hr)) (tn_var 0) tn_str (nomark _)))))))) (tb_one (ts_raise rfl tkOf xc_NoText (by rfl))) tb_nil)
    (tb_cons (ts_for poOf rfl (ti_str (tn_var 0)) (tg_name 1 S.nd) (tb_one (ts_if (tt_cmp cm_notInS (tn_var 1) (tn_globS (by rfl) q_FIGURES.choose_spec ⟨_, rfl⟩) (by rfl)) (tb_one (ts_raise rfl tkOf xc_NoText (by rfl))) tb_nil)))
    (tb_one (ts_ret (TrN.up (tn_intS (by rfl) q_int (ta_cons (tn_var 0) ta_nil)))))))
theorem sc_whole_of : FnScope ["text"] ["text"] (defScope (Hd.top 21)) := ⟨rfl, rfl, rfl, by decide +kernel, rfl, by decide +kernel, by decide +kernel⟩
theorem cl_whole_of (KX : K.In h) (G : h.Ns mainGlobals mg) (c : SaysX Hd.fa Hd.fn Hd.fx K) : Cl P w K mg base 2 "whole_of" g_whole_of := by
  obtain ⟨fd, F⟩ := c.d.def_ 7 rfl
  have xc_NoText : XcOk K mg "NoText" := ⟨_, He.glo_ok KX G (c.d.fact 10 rfl), He.exc_ok (c.d.fact 11 rfl)⟩
  have hc_figures_of : Cl P w K mg base 1 "figures_of" g_figures_of := cl_figures_of KX G c
  have S := sc_whole_of
  refine cl_mk (m := m_whole_of) F (He.glo_ok KX G (c.d.fact 23 rfl)) (F.bindsN fun _ _ _ _ _ _ us hl => match us, hl with | [_], _ => rfl) S ar_whole_of (fun cdv A outer s H E hr => ?_) run_whole_of
  exact (tb_cons (ts_if (tt_cmp (cm_ne (huOf hr)) (tn_sl (tn_var 0) to_no (to_so tn_int)) tn_str (nomark _)) (tb_one (ts_ret (TrN.up (tn_call (hc_figures_of) (hr.mono (by decide)) (by rfl) tkOf (ta_cons (tn_var 0) ta_nil))))) tb_nil)
    (tb_cons (ts_if (tt_cmp (cm_eq (huOf hr)) (tn_var 0) tn_str (nomark _)) (tb_one (ts_raise rfl tkOf xc_NoText (by rfl))) tb_nil)
    (tb_one (ts_ret (TrN.up (tn_sub tn_int (tn_call (hc_figures_of) (hr.mono (by decide)) (by rfl) tkOf (ta_cons (tn_sl (tn_var 0) (to_so tn_int) to_no) ta_nil))))))))
theorem sc_read_fraction : FnScope ["text", "top", "stroke", "bottom", "found"] ["text"] (defScope (Hd.top 22)) := ⟨rfl, rfl, rfl, by decide +kernel, rfl, by decide +kernel, by decide +kernel⟩
theorem cl_read_fraction (KX : K.In h) (G : h.Ns mainGlobals mg) (c : SaysX Hd.fa Hd.fn Hd.fx K) : Cl P w K mg base 4 "read_fraction" g_read_fraction := by
  obtain ⟨fd, F⟩ := c.d.def_ 8 rfl
  have xc_NoText : XcOk K mg "NoText" := ⟨_, He.glo_ok KX G (c.d.fact 10 rfl), He.exc_ok (c.d.fact 11 rfl)⟩
  have hc_whole_of : Cl P w K mg base 2 "whole_of" g_whole_of := cl_whole_of KX G c
  have hc_figures_of : Cl P w K mg base 1 "figures_of" g_figures_of := cl_figures_of KX G c
  have hc_fraction : Cl P w K mg base 3 "fraction" g_fraction := cl_fraction KX G c
  have S := sc_read_fraction
  refine cl_mk (m := m_read_fraction) F (He.glo_ok KX G (c.d.fact 24 rfl)) (F.bindsN fun _ _ _ _ _ _ us hl => match us, hl with | [_], _ => rfl) S ar_read_fraction (fun cdv A outer s H E hr => ?_) run_read_fraction
  exact (tb_cons (ts_asg (TrN.up (tn_part (tn_var 0) tn_str)) (tg_tup rfl (tgs_cons (tg_name 1 S.nd) (tgs_cons (tg_name 2 S.nd) (tgs_cons (tg_name 3 S.nd) tgs_nil)))))
    (tb_cons (ts_if (tt_cmp (cm_eq (huOf hr)) (tn_var 2) tn_str (nomark _)) (tb_one (ts_ret (TrN.up (tn_tup (ta_cons (tn_call (hc_whole_of) (hr.mono (by decide)) (by rfl) tkOf (ta_cons (tn_var 1) ta_nil)) (ta_cons tn_int ta_nil)))))) tb_nil)
    (tb_cons (ts_set 4 (TrN.up (tn_tup (ta_cons (tn_call (hc_whole_of) (hr.mono (by decide)) (by rfl) tkOf (ta_cons (tn_var 1) ta_nil)) (ta_cons (tn_call (hc_figures_of) (hr.mono (by decide)) (by rfl) tkOf (ta_cons (tn_var 3) ta_nil)) ta_nil)))) S.nd)
    (tb_cons (ts_if (TrW.tt (tw_or (tt_cmp cm_lt (tn_ix (tn_var 4) tn_int) tn_int (nomark _)) (tw_or1 (tt_cmp (cm_ne (huOf hr)) (tn_call (hc_fraction) (hr.mono (by decide)) (by rfl) tkOf (ta_cons (tn_ix (tn_var 4) tn_int) (ta_cons (tn_ix (tn_var 4) tn_int) ta_nil))) (tn_var 4) (nomark _))))) (tb_one (ts_raise rfl tkOf xc_NoText (by rfl))) tb_nil)
    (tb_one (ts_ret (TrN.up (tn_var 4))))))))
theorem sc_read_point : FnScope ["text", "right", "comma", "high", "x", "y"] ["text"] (defScope (Hd.top 23)) := ⟨rfl, rfl, rfl, by decide +kernel, rfl, by decide +kernel, by decide +kernel⟩
theorem cl_read_point (KX : K.In h) (G : h.Ns mainGlobals mg) (c : SaysX Hd.fa Hd.fn Hd.fx K) : Cl P w K mg base 5 "read_point" g_read_point := by
  obtain ⟨fd, F⟩ := c.d.def_ 9 rfl
  have q_isinstance : mg "isinstance" = none := He.free_ok KX G (c.d.fact 50 rfl)
  have q_str : mg "str" = none := He.free_ok KX G (c.d.fact 52 rfl)
  have xc_NoText : XcOk K mg "NoText" := ⟨_, He.glo_ok KX G (c.d.fact 10 rfl), He.exc_ok (c.d.fact 11 rfl)⟩
  have hc_read_fraction : Cl P w K mg base 4 "read_fraction" g_read_fraction := cl_read_fraction KX G c
  have hc_point : Cl P w K mg base 3 "point" g_point := cl_point KX G c
  have S := sc_read_point
  refine cl_mk (m := m_read_point) F (He.glo_ok KX G (c.d.fact 25 rfl)) (F.bindsN fun _ _ _ _ _ _ us hl => match us, hl with | [_], _ => rfl) S ar_read_point (fun cdv A outer s H E hr => ?_) run_read_point
  exact (tb_cons (ts_if (tt_not (tt_val (tn_isi "str" (by rfl) q_isinstance (by rfl) q_str (tn_var 0)))) (tb_one (ts_raise rfl tkOf xc_NoText (by rfl))) tb_nil)
    (tb_cons (ts_asg (TrN.up (tn_part (tn_var 0) tn_str)) (tg_tup rfl (tgs_cons (tg_name 1 S.nd) (tgs_cons (tg_name 2 S.nd) (tgs_cons (tg_name 3 S.nd) tgs_nil)))))
    (tb_cons (ts_if (tt_cmp (cm_eq (huOf hr)) (tn_var 2) tn_str (nomark _)) (tb_one (ts_raise rfl tkOf xc_NoText (by rfl))) tb_nil)
    (tb_cons (ts_set 4 (TrN.up (tn_call (hc_read_fraction) (hr.mono (by decide)) (by rfl) tkOf (ta_cons (tn_var 1) ta_nil))) S.nd)
    (tb_cons (ts_set 5 (TrN.up (tn_call (hc_read_fraction) (hr.mono (by decide)) (by rfl) tkOf (ta_cons (tn_var 3) ta_nil))) S.nd)
    (tb_one (ts_ret (TrN.up (tn_call (hc_point) (hr.mono (by decide)) (by rfl) tkOf (ta_cons (tn_mul (tn_ix (tn_var 4) tn_int) (tn_ix (tn_var 5) tn_int)) (ta_cons (tn_mul (tn_ix (tn_var 5) tn_int) (tn_ix (tn_var 4) tn_int)) (ta_cons (tn_mul (tn_ix (tn_var 4) tn_int) (tn_ix (tn_var 5) tn_int)) ta_nil))))))))))))
theorem sc_show_fraction : FnScope ["one"] ["one"] (defScope (Hd.top 24)) := ⟨rfl, rfl, rfl, by decide +kernel, rfl, by decide +kernel, by decide +kernel⟩
theorem cl_show_fraction (KX : K.In h) (G : h.Ns mainGlobals mg) (c : SaysX Hd.fa Hd.fn Hd.fx K) : Cl P w K mg base 1 "show_fraction" g_show_fraction := by
  obtain ⟨fd, F⟩ := c.d.def_ 10 rfl
  have q_str : mg "str" = none := He.free_ok KX G (c.d.fact 52 rfl)
  have S := sc_show_fraction
  refine cl_mk (m := m_show_fraction) F (He.glo_ok KX G (c.d.fact 26 rfl)) (F.bindsN fun _ _ _ _ _ _ us hl => match us, hl with | [_], _ => rfl) S ar_show_fraction (fun cdv A outer s H E hr => ?_) run_show_fraction
  exact (tb_cons (ts_if (tt_cmp (cm_eq (huOf hr)) (tn_ix (tn_var 0) tn_int) tn_int (nomark _)) (tb_one (ts_ret (TrN.up (tn_strI (by rfl) q_str (ta_cons (tn_ix (tn_var 0) tn_int) ta_nil))))) tb_nil)
    (tb_one (ts_ret (TrN.up (tn_plus (tn_plus (tn_strI (by rfl) q_str (ta_cons (tn_ix (tn_var 0) tn_int) ta_nil)) tn_str) (tn_strI (by rfl) q_str (ta_cons (tn_ix (tn_var 0) tn_int) ta_nil)))))))
theorem sc__law_cell_at : FnScope ["_law_script", "_law_k"] ["_law_script", "_law_k"] (defScope (Hd.top 26)) := ⟨rfl, rfl, rfl, by decide +kernel, rfl, by decide +kernel, by decide +kernel⟩
theorem cl__law_cell_at (KX : K.In h) (G : h.Ns mainGlobals mg) (c : SaysX Hd.fa Hd.fn Hd.fx K) : Cl P w K mg base 1 "_law_cell_at" g__law_cell_at := by
  obtain ⟨fd, F⟩ := c.d.def_ 11 rfl
  have q_len : mg "len" = none := He.free_ok KX G (c.d.fact 48 rfl)
  have S := sc__law_cell_at
  refine cl_mk (m := m__law_cell_at) F (He.glo_ok KX G (c.d.fact 27 rfl)) (F.bindsN fun _ _ _ _ _ _ us hl => match us, hl with | [_, _], _ => rfl) S ar__law_cell_at (fun cdv A outer s H E hr => ?_) run__law_cell_at
  exact (tb_cons (ts_if (tt_cmp cm_lt (tn_var 1) (tn_len (by rfl) q_len (ta_cons (tn_var 0) ta_nil)) (nomark _)) (tb_one (ts_ret (TrN.up (tn_ix (tn_var 0) (tn_var 1))))) tb_nil)
    (tb_one (ts_ret (TrN.up tn_int))))
theorem sc__law_whole : FnScope ["_law_found"] ["_law_found"] (defScope (Hd.top 27)) := ⟨rfl, rfl, rfl, by decide +kernel, rfl, by decide +kernel, by decide +kernel⟩
theorem cl__law_whole (KX : K.In h) (G : h.Ns mainGlobals mg) (c : SaysX Hd.fa Hd.fn Hd.fx K) : Cl P w K mg base 1 "_law_whole" g__law_whole := by
  obtain ⟨fd, F⟩ := c.d.def_ 12 rfl
  have q_isinstance : mg "isinstance" = none := He.free_ok KX G (c.d.fact 50 rfl)
  have q_int : mg "int" = none := He.free_ok KX G (c.d.fact 53 rfl)
  have q_bool : mg "bool" = none := He.free_ok KX G (c.d.fact 55 rfl)
  have S := sc__law_whole
  refine cl_mk (m := m__law_whole) F (He.glo_ok KX G (c.d.fact 28 rfl)) (F.bindsN fun _ _ _ _ _ _ us hl => match us, hl with | [_], _ => rfl) S ar__law_whole (fun cdv A outer s H E hr => ?_) run__law_whole
  exact (tb_one (ts_ret (TrN.up (tn_and (tn_isi "int" (by rfl) q_isinstance (by rfl) q_int (tn_var 0)) (tn_one (tn_not (tn_isi "bool" (by rfl) q_isinstance (by rfl) q_bool (tn_var 0))))))))
theorem sc__law_alike : FnScope ["_law_found", "_law_due", "_law_k"] ["_law_found", "_law_due"] (defScope (Hd.top 28)) := ⟨rfl, rfl, rfl, by decide +kernel, rfl, by decide +kernel, by decide +kernel⟩
theorem cl__law_alike0 (KX : K.In h) (G : h.Ns mainGlobals mg) (c : SaysX Hd.fa Hd.fn Hd.fx K) : Cl P w K mg base 2 "_law_alike" g__law_alike0 := by
  obtain ⟨fd, F⟩ := c.d.def_ 13 rfl
  have q_len : mg "len" = none := He.free_ok KX G (c.d.fact 48 rfl)
  have q_isinstance : mg "isinstance" = none := He.free_ok KX G (c.d.fact 50 rfl)
  have q_range : mg "range" = none := He.free_ok KX G (c.d.fact 51 rfl)
  have q_int : mg "int" = none := He.free_ok KX G (c.d.fact 53 rfl)
  have q_list : mg "list" = none := He.free_ok KX G (c.d.fact 54 rfl)
  have q_bool : mg "bool" = none := He.free_ok KX G (c.d.fact 55 rfl)
  have q_tuple : mg "tuple" = none := He.free_ok KX G (c.d.fact 56 rfl)
  have hc__law_whole : Cl P w K mg base 1 "_law_whole" g__law_whole := cl__law_whole KX G c
  have hc__law_alike : Cl P w K mg base 1 "_law_alike" gNone := cl_none F (He.glo_ok KX G (c.d.fact 29 rfl)) (F.bindsN fun _ _ _ _ _ _ us hl => match us, hl with | [_, _], _ => rfl) sc__law_alike
  have S := sc__law_alike
  refine cl_mk (m := m__law_alike0) F (He.glo_ok KX G (c.d.fact 29 rfl)) (F.bindsN fun _ _ _ _ _ _ us hl => match us, hl with | [_, _], _ => rfl) S ar__law_alike0 (fun cdv A outer s H E hr => ?_) run__law_alike0
  exact (tb_cons (ts_if (tt_val (tn_isi "bool" (by rfl) q_isinstance (by rfl) q_bool (tn_var 1))) (tb_one (ts_ret (TrN.up (tn_and (tn_isi "bool" (by rfl) q_isinstance (by rfl) q_bool (tn_var 0)) (tn_one (tn_cmp (cm_eq (huOf hr)) (tn_var 0) (tn_var 1) (nomark _))))))) tb_nil)
    (tb_cons (ts_if (tt_val (tn_isi "int" (by rfl) q_isinstance (by rfl) q_int (tn_var 1))) (tb_one (ts_ret (TrN.up (tn_and (tn_call (hc__law_whole) (hr.mono (by decide)) (by rfl) tkOf (ta_cons (tn_var 0) ta_nil)) (tn_one (tn_cmp (cm_eq (huOf hr)) (tn_var 0) (tn_var 1) (nomark _))))))) tb_nil)
    (tb_cons (ts_if (tt_val (tn_isi "tuple" (by rfl) q_isinstance (by rfl) q_tuple (tn_var 1))) (tb_one (ts_if (tt_not (tt_val (tn_isi "tuple" (by rfl) q_isinstance (by rfl) q_tuple (tn_var 0)))) (tb_one (ts_ret (TrN.up tn_bl))) tb_nil)) (tb_one (ts_if (tt_not (tt_val (tn_isi "list" (by rfl) q_isinstance (by rfl) q_list (tn_var 0)))) (tb_one (ts_ret (TrN.up tn_bl))) tb_nil)))
    (tb_cons (ts_if (tt_cmp (cm_ne (huOf hr)) (tn_len (by rfl) q_len (ta_cons (tn_var 0) ta_nil)) (tn_len (by rfl) q_len (ta_cons (tn_var 1) ta_nil)) (nomark _)) (tb_one (ts_ret (TrN.up tn_bl))) tb_nil)
    (tb_cons (ts_for poOf rfl (ti_rng1 (by rfl) q_range (tn_len (by rfl) q_len (ta_cons (tn_var 1) ta_nil))) (tg_name 2 S.nd) (tb_one (ts_if (tt_not (tt_val (tn_call (hc__law_alike) (hr.mono (by decide)) (by rfl) tkOf (ta_cons (tn_ix (tn_var 0) (tn_var 2)) (ta_cons (tn_ix (tn_var 1) (tn_var 2)) ta_nil))))) (tb_one (ts_ret (TrN.up tn_bl))) tb_nil)))
    (tb_one (ts_ret (TrN.up tn_bl))))))))
theorem cl__law_alike (KX : K.In h) (G : h.Ns mainGlobals mg) (c : SaysX Hd.fa Hd.fn Hd.fx K) : Cl P w K mg base 3 "_law_alike" g__law_alike := by
  obtain ⟨fd, F⟩ := c.d.def_ 13 rfl
  have q_len : mg "len" = none := He.free_ok KX G (c.d.fact 48 rfl)
  have q_isinstance : mg "isinstance" = none := He.free_ok KX G (c.d.fact 50 rfl)
  have q_range : mg "range" = none := He.free_ok KX G (c.d.fact 51 rfl)
  have q_int : mg "int" = none := He.free_ok KX G (c.d.fact 53 rfl)
  have q_list : mg "list" = none := He.free_ok KX G (c.d.fact 54 rfl)
  have q_bool : mg "bool" = none := He.free_ok KX G (c.d.fact 55 rfl)
  have q_tuple : mg "tuple" = none := He.free_ok KX G (c.d.fact 56 rfl)
  have hc__law_whole : Cl P w K mg base 1 "_law_whole" g__law_whole := cl__law_whole KX G c
  have hc__law_alike : Cl P w K mg base 2 "_law_alike" g__law_alike0 := cl__law_alike0 KX G c
  have S := sc__law_alike
  refine cl_mk (m := m__law_alike) F (He.glo_ok KX G (c.d.fact 29 rfl)) (F.bindsN fun _ _ _ _ _ _ us hl => match us, hl with | [_, _], _ => rfl) S ar__law_alike (fun cdv A outer s H E hr => ?_) run__law_alike
  exact (tb_cons (ts_if (tt_val (tn_isi "bool" (by rfl) q_isinstance (by rfl) q_bool (tn_var 1))) (tb_one (ts_ret (TrN.up (tn_and (tn_isi "bool" (by rfl) q_isinstance (by rfl) q_bool (tn_var 0)) (tn_one (tn_cmp (cm_eq (huOf hr)) (tn_var 0) (tn_var 1) (nomark _))))))) tb_nil)
    (tb_cons (ts_if (tt_val (tn_isi "int" (by rfl) q_isinstance (by rfl) q_int (tn_var 1))) (tb_one (ts_ret (TrN.up (tn_and (tn_call (hc__law_whole) (hr.mono (by decide)) (by rfl) tkOf (ta_cons (tn_var 0) ta_nil)) (tn_one (tn_cmp (cm_eq (huOf hr)) (tn_var 0) (tn_var 1) (nomark _))))))) tb_nil)
    (tb_cons (ts_if (tt_val (tn_isi "tuple" (by rfl) q_isinstance (by rfl) q_tuple (tn_var 1))) (tb_one (ts_if (tt_not (tt_val (tn_isi "tuple" (by rfl) q_isinstance (by rfl) q_tuple (tn_var 0)))) (tb_one (ts_ret (TrN.up tn_bl))) tb_nil)) (tb_one (ts_if (tt_not (tt_val (tn_isi "list" (by rfl) q_isinstance (by rfl) q_list (tn_var 0)))) (tb_one (ts_ret (TrN.up tn_bl))) tb_nil)))
    (tb_cons (ts_if (tt_cmp (cm_ne (huOf hr)) (tn_len (by rfl) q_len (ta_cons (tn_var 0) ta_nil)) (tn_len (by rfl) q_len (ta_cons (tn_var 1) ta_nil)) (nomark _)) (tb_one (ts_ret (TrN.up tn_bl))) tb_nil)
    (tb_cons (ts_for poOf rfl (ti_rng1 (by rfl) q_range (tn_len (by rfl) q_len (ta_cons (tn_var 1) ta_nil))) (tg_name 2 S.nd) (tb_one (ts_if (tt_not (tt_val (tn_call (hc__law_alike) (hr.mono (by decide)) (by rfl) tkOf (ta_cons (tn_ix (tn_var 0) (tn_var 2)) (ta_cons (tn_ix (tn_var 1) (tn_var 2)) ta_nil))))) (tb_one (ts_ret (TrN.up tn_bl))) tb_nil)))
    (tb_one (ts_ret (TrN.up tn_bl))))))))
theorem sc__law_figures : FnScope ["_law_text", "_law_sign"] ["_law_text"] (defScope (Hd.top 29)) := ⟨rfl, rfl, rfl, by decide +kernel, rfl, by decide +kernel, by decide +kernel⟩
theorem cl__law_figures (KX : K.In h) (G : h.Ns mainGlobals mg) (c : SaysX Hd.fa Hd.fn Hd.fx K) : Cl P w K mg base 1 "_law_figures" g__law_figures := by
  obtain ⟨fd, F⟩ := c.d.def_ 14 rfl
  have q_len : mg "len" = none := He.free_ok KX G (c.d.fact 48 rfl)
  have q_int : mg "int" = none := He.free_ok KX G (c.d.fact 53 rfl)
  have S := sc__law_figures
  refine cl_mk (m := m__law_figures) F (He.glo_ok KX G (c.d.fact 30 rfl)) (F.bindsN fun _ _ _ _ _ _ us hl => match us, hl with | [_], _ => rfl) S ar__law_figures (fun cdv A outer s H E hr => ?_) run__law_figures
  exact (tb_cons (ts_if (TrW.tt (tw_or (tt_cmp (cm_eq (huOf hr)) (tn_len (by rfl) q_len (ta_cons (tn_var 0) ta_nil)) tn_int (nomark _)) (tw_or (tt_cmp cm_gt (tn_len (by rfl) q_len (ta_cons (tn_var 0) ta_nil)) tn_int (nomark _)) (tw_or1 (TrW.tt (tw_and (tt_cmp (cm_eq (huOf hr)) (tn_ix (tn_var 0) tn_int) tn_str (nomark _)) (tw_and1 (tt_cmp cm_gt (tn_len (by rfl) q_len (ta_cons (tn_var 0) ta_nil)) tn_int (nomark _))))))))) (tb_one (ts_ret (TrN.up (tn_neg tn_int)))) tb_nil)
    (tb_cons (ts_for poOf rfl (ti_str (tn_var 0)) (tg_name 1 S.nd) (tb_one (ts_if (tt_cmp cm_notInS (tn_var 1) tn_str (by rfl)) (tb_one (ts_ret (TrN.up (tn_neg tn_int)))) tb_nil)))
    (tb_one (ts_ret (TrN.up (tn_intS (by rfl) q_int (ta_cons (tn_var 0) ta_nil)))))))
theorem sc__law_divisor : FnScope ["_law_one", "_law_other", "_law_rest"] ["_law_one", "_law_other"] (defScope (Hd.top 30)) := ⟨rfl, rfl, rfl, by decide +kernel, rfl, by decide +kernel, by decide +kernel⟩
theorem cl__law_divisor (KX : K.In h) (G : h.Ns mainGlobals mg) (c : SaysX Hd.fa Hd.fn Hd.fx K) : Cl P w K mg base 1 "_law_divisor" g__law_divisor := by
  obtain ⟨fd, F⟩ := c.d.def_ 15 rfl
  have S := sc__law_divisor
  refine cl_mk (m := m__law_divisor) F (He.glo_ok KX G (c.d.fact 31 rfl)) (F.bindsN fun _ _ _ _ _ _ us hl => match us, hl with | [_, _], _ => rfl) S ar__law_divisor (fun cdv A outer s H E hr => ?_) run__law_divisor
  exact (tb_cons (ts_while poOf (tt_cmp (cm_ne (huOf hr)) (tn_var 1) tn_int (nomark _)) (tb_cons (ts_set 2 (TrN.up (tn_mod (tn_var 0) (tn_var 1))) S.nd)
    (tb_cons (ts_set 0 (TrN.up (tn_var 1)) S.nd)
    (tb_one (ts_set 1 (TrN.up (tn_var 2)) S.nd)))))
    (tb_one (ts_ret (TrN.up (tn_var 0)))))
theorem sc__law_number : FnScope ["_law_text", "_law_parts", "_law_sign", "_law_head", "_law_top", "_law_bottom"] ["_law_text"] (defScope (Hd.top 31)) := ⟨rfl, rfl, rfl, by decide +kernel, rfl, by decide +kernel, by decide +kernel⟩
theorem cl__law_number (KX : K.In h) (G : h.Ns mainGlobals mg) (c : SaysX Hd.fa Hd.fn Hd.fx K) : Cl P w K mg base 2 "_law_number" g__law_number := by
  obtain ⟨fd, F⟩ := c.d.def_ 16 rfl
  have q_len : mg "len" = none := He.free_ok KX G (c.d.fact 48 rfl)
  have hc__law_figures : Cl P w K mg base 1 "_law_figures" g__law_figures := cl__law_figures KX G c
  have hc__law_divisor : Cl P w K mg base 1 "_law_divisor" g__law_divisor := cl__law_divisor KX G c
  have S := sc__law_number
  refine cl_mk (m := m__law_number) F (He.glo_ok KX G (c.d.fact 32 rfl)) (F.bindsN fun _ _ _ _ _ _ us hl => match us, hl with | [_], _ => rfl) S ar__law_number (fun cdv A outer s H E hr => ?_) run__law_number
  exact (tb_cons (ts_set 1 (TrN.up (tn_split (tn_var 0) tn_str)) S.nd)
    (tb_cons (ts_set 2 (TrN.up tn_int) S.nd)
    (tb_cons (ts_set 3 (TrN.up (tn_ix (tn_var 1) tn_int)) S.nd)
    (tb_cons (ts_if (tt_cmp (cm_eq (huOf hr)) (tn_sl (tn_var 3) to_no (to_so tn_int)) tn_str (nomark _)) (tb_cons (ts_set 2 (TrN.up (tn_neg tn_int)) S.nd)
    (tb_one (ts_set 3 (TrN.up (tn_sl (tn_var 3) (to_so tn_int) to_no)) S.nd))) tb_nil)
    (tb_cons (ts_set 4 (TrN.up (tn_call (hc__law_figures) (hr.mono (by decide)) (by rfl) tkOf (ta_cons (tn_var 3) ta_nil))) S.nd)
    (tb_cons (ts_if (TrW.tt (tw_or (tt_cmp cm_gt (tn_len (by rfl) q_len (ta_cons (tn_var 1) ta_nil)) tn_int (nomark _)) (tw_or (tt_cmp cm_lt (tn_var 4) tn_int (nomark _)) (tw_or1 (TrW.tt (tw_and (tt_cmp cm_lt (tn_var 2) tn_int (nomark _)) (tw_and1 (tt_cmp (cm_eq (huOf hr)) (tn_var 4) tn_int (nomark _))))))))) (tb_one (ts_ret (TrN.up tn_non))) tb_nil)
    (tb_cons (ts_if (tt_cmp (cm_eq (huOf hr)) (tn_len (by rfl) q_len (ta_cons (tn_var 1) ta_nil)) tn_int (nomark _)) (tb_one (ts_ret (TrN.up (tn_tup (ta_cons (tn_mul (tn_var 2) (tn_var 4)) (ta_cons tn_int ta_nil)))))) tb_nil)
    (tb_cons (ts_set 5 (TrN.up (tn_call (hc__law_figures) (hr.mono (by decide)) (by rfl) tkOf (ta_cons (tn_ix (tn_var 1) tn_int) ta_nil))) S.nd)
    (tb_cons (ts_if (TrW.tt (tw_or (tt_cmp cm_lt (tn_var 5) tn_int (nomark _)) (tw_or1 (tt_cmp (cm_ne (huOf hr)) (tn_call (hc__law_divisor) (hr.mono (by decide)) (by rfl) tkOf (ta_cons (tn_var 4) (ta_cons (tn_var 5) ta_nil))) tn_int (nomark _))))) (tb_one (ts_ret (TrN.up tn_non))) tb_nil)
    (tb_one (ts_ret (TrN.up (tn_tup (ta_cons (tn_mul (tn_var 2) (tn_var 4)) (ta_cons (tn_var 5) ta_nil)))))))))))))))
theorem sc__law_point : FnScope ["_law_text", "_law_parts", "_law_x", "_law_y", "_law_by"] ["_law_text"] (defScope (Hd.top 32)) := ⟨rfl, rfl, rfl, by decide +kernel, rfl, by decide +kernel, by decide +kernel⟩
theorem cl__law_point (KX : K.In h) (G : h.Ns mainGlobals mg) (c : SaysX Hd.fa Hd.fn Hd.fx K) : Cl P w K mg base 3 "_law_point" g__law_point := by
  obtain ⟨fd, F⟩ := c.d.def_ 17 rfl
  have q_len : mg "len" = none := He.free_ok KX G (c.d.fact 48 rfl)
  have q_abs : mg "abs" = none := He.free_ok KX G (c.d.fact 49 rfl)
  have hc__law_number : Cl P w K mg base 2 "_law_number" g__law_number := cl__law_number KX G c
  have hc__law_divisor : Cl P w K mg base 1 "_law_divisor" g__law_divisor := cl__law_divisor KX G c
  have S := sc__law_point
  refine cl_mk (m := m__law_point) F (He.glo_ok KX G (c.d.fact 33 rfl)) (F.bindsN fun _ _ _ _ _ _ us hl => match us, hl with | [_], _ => rfl) S ar__law_point (fun cdv A outer s H E hr => ?_) run__law_point
  exact (tb_cons (ts_set 1 (TrN.up (tn_split (tn_var 0) tn_str)) S.nd)
    (tb_cons (ts_if (tt_cmp (cm_ne (huOf hr)) (tn_len (by rfl) q_len (ta_cons (tn_var 1) ta_nil)) tn_int (nomark _)) (tb_one (ts_ret (TrN.up tn_non))) tb_nil)
    (tb_cons (ts_set 2 (TrN.up (tn_call (hc__law_number) (hr.mono (by decide)) (by rfl) tkOf (ta_cons (tn_ix (tn_var 1) tn_int) ta_nil))) S.nd)
    (tb_cons (ts_set 3 (TrN.up (tn_call (hc__law_number) (hr.mono (by decide)) (by rfl) tkOf (ta_cons (tn_ix (tn_var 1) tn_int) ta_nil))) S.nd)
    (tb_cons (ts_if (TrW.tt (tw_or (tt_cmp cm_isN (tn_var 2) tn_non (nomark _)) (tw_or1 (tt_cmp cm_isN (tn_var 3) tn_non (nomark _))))) (tb_one (ts_ret (TrN.up tn_non))) tb_nil)
    (tb_cons (ts_set 4 (TrN.up (tn_call (hc__law_divisor) (hr.mono (by decide)) (by rfl) tkOf (ta_cons (tn_call (hc__law_divisor) (hr.mono (by decide)) (by rfl) tkOf (ta_cons (tn_abs (by rfl) q_abs (ta_cons (tn_mul (tn_ix (tn_var 2) tn_int) (tn_ix (tn_var 3) tn_int)) ta_nil)) (ta_cons (tn_abs (by rfl) q_abs (ta_cons (tn_mul (tn_ix (tn_var 3) tn_int) (tn_ix (tn_var 2) tn_int)) ta_nil)) ta_nil))) (ta_cons (tn_mul (tn_ix (tn_var 2) tn_int) (tn_ix (tn_var 3) tn_int)) ta_nil)))) S.nd)
    (tb_one (ts_ret (TrN.up (tn_tup (ta_cons (tn_fdiv (tn_mul (tn_ix (tn_var 2) tn_int) (tn_ix (tn_var 3) tn_int)) (tn_var 4)) (ta_cons (tn_fdiv (tn_mul (tn_ix (tn_var 3) tn_int) (tn_ix (tn_var 2) tn_int)) (tn_var 4)) (ta_cons (tn_fdiv (tn_mul (tn_ix (tn_var 2) tn_int) (tn_ix (tn_var 3) tn_int)) (tn_var 4)) ta_nil)))))))))))))
theorem sc__law_bound : FnScope ["_law_cell"] ["_law_cell"] (defScope (Hd.top 33)) := ⟨rfl, rfl, rfl, by decide +kernel, rfl, by decide +kernel, by decide +kernel⟩
theorem cl__law_bound (KX : K.In h) (G : h.Ns mainGlobals mg) (c : SaysX Hd.fa Hd.fn Hd.fx K) : Cl P w K mg base 1 "_law_bound" g__law_bound := by
  obtain ⟨fd, F⟩ := c.d.def_ 18 rfl
  have S := sc__law_bound
  refine cl_mk (m := m__law_bound) F (He.glo_ok KX G (c.d.fact 34 rfl)) (F.bindsN fun _ _ _ _ _ _ us hl => match us, hl with | [_], _ => rfl) S ar__law_bound (fun cdv A outer s H E hr => ?_) run__law_bound
  exact (tb_one (ts_ret (te_if (tt_cmp (cm_eq (huOf hr)) (tn_mod (tn_var 0) tn_int) tn_int (nomark _)) (TrN.up (tn_sub (tn_pow tn_int tn_int) tn_int)) (TrN.up (tn_pow tn_int tn_int)))))
theorem sc__law_size : FnScope ["_law_cell"] ["_law_cell"] (defScope (Hd.top 34)) := ⟨rfl, rfl, rfl, by decide +kernel, rfl, by decide +kernel, by decide +kernel⟩
theorem cl__law_size (KX : K.In h) (G : h.Ns mainGlobals mg) (c : SaysX Hd.fa Hd.fn Hd.fx K) : Cl P w K mg base 1 "_law_size" g__law_size := by
  obtain ⟨fd, F⟩ := c.d.def_ 19 rfl
  have S := sc__law_size
  refine cl_mk (m := m__law_size) F (He.glo_ok KX G (c.d.fact 35 rfl)) (F.bindsN fun _ _ _ _ _ _ us hl => match us, hl with | [_], _ => rfl) S ar__law_size (fun cdv A outer s H E hr => ?_) run__law_size
  exact (tb_one (ts_ret (TrN.up (tn_ix (tn_lst (ta_cons tn_int (ta_cons tn_int (ta_cons tn_int (ta_cons (tn_pow tn_int tn_int) (ta_cons (tn_pow tn_int tn_int) (ta_cons (tn_pow tn_int tn_int) ta_nil))))))) (tn_mod (tn_var 0) tn_int)))))
theorem sc__law_number_text : FnScope ["_law_cell", "_law_top", "_law_sign", "_law_bottom"] ["_law_cell"] (defScope (Hd.top 35)) := ⟨rfl, rfl, rfl, by decide +kernel, rfl, by decide +kernel, by decide +kernel⟩
theorem cl__law_number_text (KX : K.In h) (G : h.Ns mainGlobals mg) (c : SaysX Hd.fa Hd.fn Hd.fx K) : Cl P w K mg base 2 "_law_number_text" g__law_number_text := by
  obtain ⟨fd, F⟩ := c.d.def_ 20 rfl
  have q_str : mg "str" = none := He.free_ok KX G (c.d.fact 52 rfl)
  have hc__law_size : Cl P w K mg base 1 "_law_size" g__law_size := cl__law_size KX G c
  have hc__law_bound : Cl P w K mg base 1 "_law_bound" g__law_bound := cl__law_bound KX G c
  have hc__law_divisor : Cl P w K mg base 1 "_law_divisor" g__law_divisor := cl__law_divisor KX G c
  have S := sc__law_number_text
  refine cl_mk (m := m__law_number_text) F (He.glo_ok KX G (c.d.fact 36 rfl)) (F.bindsN fun _ _ _ _ _ _ us hl => match us, hl with | [_], _ => rfl) S ar__law_number_text (fun cdv A outer s H E hr => ?_) run__law_number_text
  exact (tb_cons (ts_set 1 (TrN.up (tn_mod (tn_fdiv (tn_var 0) tn_int) (tn_call (hc__law_size) (hr.mono (by decide)) (by rfl) tkOf (ta_cons (tn_fdiv (tn_var 0) tn_int) ta_nil)))) S.nd)
    (tb_cons (ts_if (tt_cmp (cm_eq (huOf hr)) (tn_mod (tn_fdiv (tn_var 0) tn_int) tn_int) tn_int (nomark _)) (tb_one (ts_set 1 (TrN.up (tn_call (hc__law_bound) (hr.mono (by decide)) (by rfl) tkOf (ta_cons (tn_fdiv (tn_var 0) tn_int) ta_nil))) S.nd)) tb_nil)
    (tb_cons (ts_set 2 (TrN.up (tn_ix (tn_lst (ta_cons tn_str (ta_cons tn_str ta_nil))) (tn_mod (tn_var 0) tn_int))) S.nd)
    (tb_cons (ts_if (tt_cmp (cm_eq (huOf hr)) (tn_var 1) tn_int (nomark _)) (tb_one (ts_set 2 (TrN.up tn_str) S.nd)) tb_nil)
    (tb_cons (ts_if (TrW.tt (tw_or (tt_cmp (cm_eq (huOf hr)) (tn_mod (tn_fdiv (tn_var 0) tn_int) tn_int) tn_int (nomark _)) (tw_or1 (tt_cmp (cm_eq (huOf hr)) (tn_var 1) tn_int (nomark _))))) (tb_one (ts_ret (TrN.up (tn_plus (tn_var 2) (tn_strI (by rfl) q_str (ta_cons (tn_var 1) ta_nil)))))) tb_nil)
    (tb_cons (ts_set 3 (TrN.up (tn_plus tn_int (tn_mod (tn_mul (tn_mod (tn_mul (tn_var 0) tn_int) tn_int) (tn_plus (tn_pow tn_int tn_int) tn_int)) (tn_sub (tn_call (hc__law_size) (hr.mono (by decide)) (by rfl) tkOf (ta_cons (tn_fdiv (tn_var 0) tn_int) ta_nil)) tn_int)))) S.nd)
    (tb_cons (ts_while poOf (tt_cmp (cm_ne (huOf hr)) (tn_call (hc__law_divisor) (hr.mono (by decide)) (by rfl) tkOf (ta_cons (tn_var 1) (ta_cons (tn_var 3) ta_nil))) tn_int (nomark _)) (tb_one (ts_set 3 (TrN.up (tn_plus (tn_var 3) tn_int)) S.nd)))
    (tb_one (ts_ret (TrN.up (tn_plus (tn_plus (tn_plus (tn_var 2) (tn_strI (by rfl) q_str (ta_cons (tn_var 1) ta_nil))) tn_str) (tn_strI (by rfl) q_str (ta_cons (tn_var 3) ta_nil)))))))))))))
theorem sc__law_spoilt : FnScope ["_law_text", "_law_cell", "_law_signs", "_law_at", "_law_more"] ["_law_text", "_law_cell"] (defScope (Hd.top 36)) := ⟨rfl, rfl, rfl, by decide +kernel, rfl, by decide +kernel, by decide +kernel⟩
theorem cl__law_spoilt (KX : K.In h) (G : h.Ns mainGlobals mg) (c : SaysX Hd.fa Hd.fn Hd.fx K) : Cl P w K mg base 1 "_law_spoilt" g__law_spoilt := by
  obtain ⟨fd, F⟩ := c.d.def_ 21 rfl
  have q_len : mg "len" = none := He.free_ok KX G (c.d.fact 48 rfl)
  have S := sc__law_spoilt
  refine cl_mk (m := m__law_spoilt) F (He.glo_ok KX G (c.d.fact 37 rfl)) (F.bindsN fun _ _ _ _ _ _ us hl => match us, hl with | [_, _], _ => rfl) S ar__law_spoilt (fun cdv A outer s H E hr => ?_) run__law_spoilt
  exact (tb_cons (ts_set 2 (TrN.up tn_str) S.nd)
    (tb_cons (ts_set 3 (TrN.up (tn_mod (tn_fdiv (tn_var 1) tn_int) (tn_plus (tn_len (by rfl) q_len (ta_cons (tn_var 0) ta_nil)) tn_int))) S.nd)
    (tb_cons (ts_set 4 (TrN.up (tn_mod (tn_fdiv (tn_var 1) tn_int) tn_int)) S.nd)
    (tb_cons (ts_if (tt_cmp (cm_eq (huOf hr)) (tn_mod (tn_var 1) tn_int) tn_int (nomark _)) (tb_one (ts_ret (TrN.up (tn_plus (tn_sl (tn_var 0) to_no (to_so (tn_var 3))) (tn_sl (tn_var 0) (to_so (tn_plus (tn_var 3) tn_int)) to_no))))) tb_nil)
    (tb_cons (ts_if (tt_cmp (cm_eq (huOf hr)) (tn_mod (tn_var 1) tn_int) tn_int (nomark _)) (tb_one (ts_ret (TrN.up (tn_plus (tn_plus (tn_sl (tn_var 0) to_no (to_so (tn_var 3))) (tn_ix (tn_var 2) (tn_var 4))) (tn_sl (tn_var 0) (to_so (tn_var 3)) to_no))))) tb_nil)
    (tb_one (ts_ret (TrN.up (tn_plus (tn_plus (tn_sl (tn_var 0) to_no (to_so (tn_var 3))) (tn_ix (tn_var 2) (tn_var 4))) (tn_sl (tn_var 0) (to_so (tn_plus (tn_var 3) tn_int)) to_no))))))))))
theorem sc__law_odd : FnScope ["_law_cell", "_law_some"] ["_law_cell"] (defScope (Hd.top 37)) := ⟨rfl, rfl, rfl, by decide +kernel, rfl, by decide +kernel, by decide +kernel⟩
theorem cl__law_odd (KX : K.In h) (G : h.Ns mainGlobals mg) (c : SaysX Hd.fa Hd.fn Hd.fx K) : Cl P w K mg base 1 "_law_odd" g__law_odd := by
  obtain ⟨fd, F⟩ := c.d.def_ 22 rfl
  have q_len : mg "len" = none := He.free_ok KX G (c.d.fact 48 rfl)
  have S := sc__law_odd
  refine cl_mk (m := m__law_odd) F (He.glo_ok KX G (c.d.fact 38 rfl)) (F.bindsN fun _ _ _ _ _ _ us hl => match us, hl with | [_], _ => rfl) S ar__law_odd (fun cdv A outer s H E hr => ?_) run__law_odd
  exact (tb_cons (ts_set 1 (TrN.up (tn_lst (ta_cons tn_str (ta_cons tn_str (ta_cons tn_str (ta_cons tn_str (ta_cons tn_str (ta_cons tn_str (ta_cons tn_str (ta_cons tn_str (ta_cons tn_str (ta_cons tn_str (ta_cons tn_str (ta_cons tn_str ta_nil)))))))))))))) S.nd)
    (tb_cons (ts_set 1 (TrN.up (tn_plus (tn_var 1) (tn_lst (ta_cons tn_str (ta_cons tn_str (ta_cons tn_str ta_nil)))))) S.nd)
    (tb_cons (ts_set 1 (TrN.up (tn_plus (tn_var 1) (tn_lst (ta_cons tn_str (ta_cons tn_str (ta_cons tn_str (ta_cons tn_str (ta_cons tn_str (ta_cons tn_str (ta_cons tn_str (ta_cons tn_str (ta_cons tn_str ta_nil)))))))))))) S.nd)
    (tb_cons (ts_set 1 (TrN.up (tn_plus (tn_var 1) (tn_lst (ta_cons tn_str (ta_cons tn_str (ta_cons tn_str ta_nil)))))) S.nd)
    (tb_cons (ts_set 1 (TrN.up (tn_plus (tn_var 1) (tn_lst (ta_cons tn_str (ta_cons tn_str (ta_cons tn_str (ta_cons tn_str (ta_cons tn_str (ta_cons tn_str (ta_cons tn_str (ta_cons tn_str ta_nil))))))))))) S.nd)
    (tb_cons (ts_set 1 (TrN.up (tn_plus (tn_var 1) (tn_lst (ta_cons (tn_plus (tn_mulS tn_str tn_int) tn_str) (ta_cons (tn_plus tn_str (tn_mulS tn_str tn_int)) ta_nil))))) S.nd)
    (tb_one (ts_ret (TrN.up (tn_ix (tn_var 1) (tn_mod (tn_var 0) (tn_len (by rfl) q_len (ta_cons (tn_var 1) ta_nil)))))))))))))
theorem sc__law_read : FnScope ["_law_text", "e"] ["_law_text"] (defScope (Hd.top 38)) := ⟨rfl, rfl, rfl, by decide +kernel, rfl, by decide +kernel, by decide +kernel⟩
theorem cl__law_read (KX : K.In h) (G : h.Ns mainGlobals mg) (c : SaysX Hd.fa Hd.fn Hd.fx K) : Cl P w K mg base 6 "_law_read" g__law_read := by
  obtain ⟨fd, F⟩ := c.d.def_ 23 rfl
  have q_isinstance : mg "isinstance" = none := He.free_ok KX G (c.d.fact 50 rfl)
  have go_NoText : mg "NoText" = some (.ref (He.ga K "NoText")) := He.glo_ok KX G (c.d.fact 10 rfl)
  have xi_NoText_NoText : XcIn K mg "NoText" "NoText" true := xcIn_ok (He.glo_ok KX G (c.d.fact 10 rfl)) go_NoText (c.d.fact 46 rfl)
  have gc_NoText : mg "NoText" = some (.ref (He.ga K "NoText")) := He.glo_ok KX G (c.d.fact 10 rfl)
  have ic_NoText : ∀ {D : Addr}, mg "NoText" = some (.ref D) → ExcC K D := fun e => by rw [gc_NoText] at e; cases e; exact excC_ok (c.fx 32 rfl)
  have go_NoStretch : mg "NoStretch" = some (.ref (He.ga K "NoStretch")) := He.glo_ok KX G (c.d.fact 6 rfl)
  have ie_NoText_NoStretch : IsOk K mg "NoText" "NoStretch" false := isOk_own gc_NoText go_NoStretch (c.fx 32 rfl) (c.fx 37 rfl)
  have it_NoText_NoStretch : ∀ {D : Addr}, mg "NoText" = some (.ref D) → PySem.W.kitOne K (.ref D) (.ref (He.ga K "NoStretch")) = some false := fun e => by rw [gc_NoText] at e; cases e; exact isi_ok (c.fx 37 rfl)
  have go_NoPoint : mg "NoPoint" = some (.ref (He.ga K "NoPoint")) := He.glo_ok KX G (c.d.fact 4 rfl)
  have ie_NoText_NoPoint : IsOk K mg "NoText" "NoPoint" false := isOk_own gc_NoText go_NoPoint (c.fx 32 rfl) (c.fx 36 rfl)
  have it_NoText_NoPoint : ∀ {D : Addr}, mg "NoText" = some (.ref D) → PySem.W.kitOne K (.ref D) (.ref (He.ga K "NoPoint")) = some false := fun e => by rw [gc_NoText] at e; cases e; exact isi_ok (c.fx 36 rfl)
  have go_NoNumber : mg "NoNumber" = some (.ref (He.ga K "NoNumber")) := He.glo_ok KX G (c.d.fact 2 rfl)
  have ie_NoText_NoNumber : IsOk K mg "NoText" "NoNumber" false := isOk_own gc_NoText go_NoNumber (c.fx 32 rfl) (c.fx 35 rfl)
  have it_NoText_NoNumber : ∀ {D : Addr}, mg "NoText" = some (.ref D) → PySem.W.kitOne K (.ref D) (.ref (He.ga K "NoNumber")) = some false := fun e => by rw [gc_NoText] at e; cases e; exact isi_ok (c.fx 35 rfl)
  have go_NoRow : mg "NoRow" = some (.ref (He.ga K "NoRow")) := He.glo_ok KX G (c.d.fact 12 rfl)
  have ie_NoText_NoRow : IsOk K mg "NoText" "NoRow" false := isOk_own gc_NoText go_NoRow (c.fx 32 rfl) (c.fx 34 rfl)
  have it_NoText_NoRow : ∀ {D : Addr}, mg "NoText" = some (.ref D) → PySem.W.kitOne K (.ref D) (.ref (He.ga K "NoRow")) = some false := fun e => by rw [gc_NoText] at e; cases e; exact isi_ok (c.fx 34 rfl)
  have go_NoName : mg "NoName" = some (.ref (He.ga K "NoName")) := He.glo_ok KX G (c.d.fact 8 rfl)
  have ie_NoText_NoName : IsOk K mg "NoText" "NoName" false := isOk_own gc_NoText go_NoName (c.fx 32 rfl) (c.fx 33 rfl)
  have it_NoText_NoName : ∀ {D : Addr}, mg "NoText" = some (.ref D) → PySem.W.kitOne K (.ref D) (.ref (He.ga K "NoName")) = some false := fun e => by rw [gc_NoText] at e; cases e; exact isi_ok (c.fx 33 rfl)
  have go_AcreError : mg "AcreError" = some (.ref (He.ga K "AcreError")) := He.glo_ok KX G (c.d.fact 0 rfl)
  have ie_NoText_AcreError : IsOk K mg "NoText" "AcreError" true := isOk_own gc_NoText go_AcreError (c.fx 32 rfl) (c.fx 39 rfl)
  have it_NoText_AcreError : ∀ {D : Addr}, mg "NoText" = some (.ref D) → PySem.W.kitOne K (.ref D) (.ref (He.ga K "AcreError")) = some true := fun e => by rw [gc_NoText] at e; cases e; exact isi_ok (c.fx 39 rfl)
  have ie_NoText_ValueError : IsOk K mg "NoText" "ValueError" true := isOk_ty (T := "ValueError") gc_NoText (He.free_ok KX G (c.d.fact 57 rfl)) (by decide +kernel) (by decide) (c.fx 32 rfl) (c.fx 38 rfl)
  have hc_read_point : Cl P w K mg base 5 "read_point" g_read_point := cl_read_point KX G c
  have S := sc__law_read
  refine cl_mk (m := m__law_read) F (He.glo_ok KX G (c.d.fact 39 rfl)) (F.bindsN fun _ _ _ _ _ _ us hl => match us, hl with | [_], _ => rfl) S ar__law_read (fun cdv A outer s H E hr => ?_) run__law_read
  exact (tb_one (ts_tryAs 1 rfl rfl S.nd tkOf (catL_ok (List.forall_mem_cons.mpr ⟨xi_NoText_NoText, (List.forall_mem_nil _)⟩)) ⟨_, go_NoText⟩ (by rfl) (fun W1 pn1 xe1 tk_ po_ => (tb_one (ts_ret (TrN.up (tn_call (hc_read_point) (hr.mono (by decide)) (by rfl) tk_ (ta_cons (tn_var 0) ta_nil)))))) (fun a D oe c pn hc hm hz hf => by
    obtain rfl := cat1 hc
    exact (tb_cons (ts_if (TrW.tt (tw_or (tt_val (tn_isET 1 (ic_NoText hm) (ClsArgs.cons (by rfl) (.inl go_NoName) (.own _) (it_NoText_NoName hm) (by decide) (by rfl) (ClsArgs.cons (by rfl) (.inl go_NoRow) (.own _) (it_NoText_NoRow hm) (by decide) (by rfl) (ClsArgs.cons (by rfl) (.inl go_NoNumber) (.own _) (it_NoText_NoNumber hm) (by decide) (by rfl) (ClsArgs.cons (by rfl) (.inl go_NoPoint) (.own _) (it_NoText_NoPoint hm) (by decide) (by rfl) (ClsArgs.cons (by rfl) (.inl go_NoStretch) (.own _) (it_NoText_NoStretch hm) (by decide) (by rfl) .nil (by rfl)) (by rfl)) (by rfl)) (by rfl)) (by rfl)) hz hf (by rfl) q_isinstance)) (tw_or1 (tt_not (tt_val (tn_isE 1 ie_NoText_AcreError hm hz hf (by rfl) q_isinstance (by rfl))))))) (tb_one (ts_ret (TrN.up tn_str))) tb_nil)
    (tb_cons (ts_if (tt_not (tt_val (tn_isE 1 ie_NoText_ValueError hm hz hf (by rfl) q_isinstance (by rfl)))) (tb_one (ts_ret (TrN.up tn_str))) tb_nil)
    (tb_one (ts_ret (TrN.up tn_str))))))))
theorem sc__law_right : FnScope ["_law_text", "_law_due", "_law_found"] ["_law_text"] (defScope (Hd.top 39)) := ⟨rfl, rfl, rfl, by decide +kernel, rfl, by decide +kernel, by decide +kernel⟩
theorem cl__law_right (KX : K.In h) (G : h.Ns mainGlobals mg) (c : SaysX Hd.fa Hd.fn Hd.fx K) : Cl P w K mg base 7 "_law_right" g__law_right := by
  obtain ⟨fd, F⟩ := c.d.def_ 24 rfl
  have q_isinstance : mg "isinstance" = none := He.free_ok KX G (c.d.fact 50 rfl)
  have q_str : mg "str" = none := He.free_ok KX G (c.d.fact 52 rfl)
  have hc__law_point : Cl P w K mg base 3 "_law_point" g__law_point := cl__law_point KX G c
  have hc__law_read : Cl P w K mg base 6 "_law_read" g__law_read := cl__law_read KX G c
  have hc__law_alike : Cl P w K mg base 3 "_law_alike" g__law_alike := cl__law_alike KX G c
  have S := sc__law_right
  refine cl_mk (m := m__law_right) F (He.glo_ok KX G (c.d.fact 40 rfl)) (F.bindsN fun _ _ _ _ _ _ us hl => match us, hl with | [_], _ => rfl) S ar__law_right (fun cdv A outer s H E hr => ?_) run__law_right
  exact (tb_cons (ts_set 1 (TrN.up (tn_call (hc__law_point) (hr.mono (by decide)) (by rfl) tkOf (ta_cons (tn_var 0) ta_nil))) S.nd)
    (tb_cons (ts_if (tt_cmp cm_isN (tn_var 1) tn_non (nomark _)) (tb_one (ts_set 1 (TrN.up tn_str) S.nd)) tb_nil)
    (tb_cons (ts_set 2 (TrN.up (tn_call (hc__law_read) (hr.mono (by decide)) (by rfl) tkOf (ta_cons (tn_var 0) ta_nil))) S.nd)
    (tb_cons (ts_if (tt_val (tn_isi "str" (by rfl) q_isinstance (by rfl) q_str (tn_var 1))) (tb_one (ts_ret (TrN.up (tn_and (tn_isi "str" (by rfl) q_isinstance (by rfl) q_str (tn_var 2)) (tn_one (tn_cmp (cm_eq (huOf hr)) (tn_var 2) (tn_var 1) (nomark _))))))) tb_nil)
    (tb_one (ts_ret (TrN.up (tn_call (hc__law_alike) (hr.mono (by decide)) (by rfl) tkOf (ta_cons (tn_var 2) (ta_cons (tn_var 1) ta_nil))))))))))
theorem sc_law : FnScope ["_law_script", "_law_text", "_law_k", "_law_one", "_law_due", "_law_found"] ["_law_script"] (defScope (Hd.top 40)) := ⟨rfl, rfl, rfl, by decide +kernel, rfl, by decide +kernel, by decide +kernel⟩
theorem fk_law (KX : K.In h) (G : h.Ns mainGlobals mg) (c : SaysX Hd.fa Hd.fn Hd.fx K) (hfa : mg "law" = some (.ref fa)) : ∃ fd : FuncData, (∀ (s : Shared) (v : Value), BindsTo s fd ⟨[v], []⟩ [("_law_script", v)]) ∧ ∀ base : Heap, FnOk P w K mg base (L2.CX P w) 8 fa fd ["_law_script"] (spP K w mg g_law71) := by
  obtain ⟨fd, F⟩ := c.d.def_ 25 rfl
  have q_abs : mg "abs" = none := He.free_ok KX G (c.d.fact 49 rfl)
  have q_isinstance : mg "isinstance" = none := He.free_ok KX G (c.d.fact 50 rfl)
  have q_range : mg "range" = none := He.free_ok KX G (c.d.fact 51 rfl)
  have q_str : mg "str" = none := He.free_ok KX G (c.d.fact 52 rfl)
  have S := sc_law
  have e := hfa.symm.trans (He.glo_ok KX G (c.d.fact 41 rfl))
  cases e
  have b := FunD.bindsA (ps := ["_law_script"]) F fun _ _ _ _ _ _ us hl => match us, hl with | [_], _ => rfl
  refine ⟨fd, fun s v => b s [v] rfl, fun base => ?_⟩
  have hc__law_cell_at : Cl P w K mg base 1 "_law_cell_at" g__law_cell_at := cl__law_cell_at KX G c
  have hc__law_number_text : Cl P w K mg base 2 "_law_number_text" g__law_number_text := cl__law_number_text KX G c
  have hc__law_right : Cl P w K mg base 7 "_law_right" g__law_right := cl__law_right KX G c
  have hc__law_odd : Cl P w K mg base 1 "_law_odd" g__law_odd := cl__law_odd KX G c
  have hc__law_spoilt : Cl P w K mg base 1 "_law_spoilt" g__law_spoilt := cl__law_spoilt KX G c
  have hc__law_read : Cl P w K mg base 6 "_law_read" g__law_read := cl__law_read KX G c
  have hc__law_number : Cl P w K mg base 2 "_law_number" g__law_number := cl__law_number KX G c
  have hc_show_fraction : Cl P w K mg base 1 "show_fraction" g_show_fraction := cl_show_fraction KX G c
  refine fk_mk (m := m_law71) F S ar_law71 (fun cdv A outer s H E hr => ?_) run_law71
  exact (tb_cons (ts_set 1 (TrN.up (tn_plus (tn_plus (tn_call (hc__law_number_text) (hr.mono (by decide)) (by rfl) tkOf (ta_cons (tn_abs (by rfl) q_abs (ta_cons (tn_call (hc__law_cell_at) (hr.mono (by decide)) (by rfl) tkOf (ta_cons (tn_var 0) (ta_cons tn_int ta_nil))) ta_nil)) ta_nil)) tn_str) (tn_call (hc__law_number_text) (hr.mono (by decide)) (by rfl) tkOf (ta_cons (tn_abs (by rfl) q_abs (ta_cons (tn_call (hc__law_cell_at) (hr.mono (by decide)) (by rfl) tkOf (ta_cons (tn_var 0) (ta_cons tn_int ta_nil))) ta_nil)) ta_nil)))) S.nd)
    (tb_cons (ts_if (TrW.tt (tw_or (tt_not (tt_val (tn_call (hc__law_right) (hr.mono (by decide)) (by rfl) tkOf (ta_cons (tn_var 1) ta_nil)))) (tw_or1 (tt_not (tt_val (tn_call (hc__law_right) (hr.mono (by decide)) (by rfl) tkOf (ta_cons (tn_call (hc__law_odd) (hr.mono (by decide)) (by rfl) tkOf (ta_cons (tn_call (hc__law_cell_at) (hr.mono (by decide)) (by rfl) tkOf (ta_cons (tn_var 0) (ta_cons tn_int ta_nil))) ta_nil)) ta_nil))))))) (tb_one (ts_ret (TrN.up tn_bl))) tb_nil)
    (tb_cons (ts_for poOf rfl (ti_rng1 (by rfl) q_range tn_int) (tg_name 2 S.nd) (tb_one (ts_if (tt_not (tt_val (tn_call (hc__law_right) (hr.mono (by decide)) (by rfl) tkOf (ta_cons (tn_call (hc__law_spoilt) (hr.mono (by decide)) (by rfl) tkOf (ta_cons (tn_var 1) (ta_cons (tn_plus (tn_abs (by rfl) q_abs (ta_cons (tn_call (hc__law_cell_at) (hr.mono (by decide)) (by rfl) tkOf (ta_cons (tn_var 0) (ta_cons (tn_plus tn_int (tn_var 2)) ta_nil))) ta_nil)) (tn_var 2)) ta_nil))) ta_nil)))) (tb_one (ts_ret (TrN.up tn_bl))) tb_nil)))
    (tb_cons (ts_if (TrW.tt (tw_or (tt_cmp (cm_ne (huOf hr)) (tn_call (hc__law_read) (hr.mono (by decide)) (by rfl) tkOf (ta_cons tn_int ta_nil)) tn_str (nomark _)) (tw_or (tt_cmp (cm_ne (huOf hr)) (tn_call (hc__law_read) (hr.mono (by decide)) (by rfl) tkOf (ta_cons tn_non ta_nil)) tn_str (nomark _)) (tw_or1 (tt_not (tt_val (tn_call (hc__law_right) (hr.mono (by decide)) (by rfl) tkOf (ta_cons (tn_var 1) ta_nil)))))))) (tb_one (ts_ret (TrN.up tn_bl))) tb_nil)
    (tb_cons (ts_set 3 (TrN.up (tn_call (hc__law_number) (hr.mono (by decide)) (by rfl) tkOf (ta_cons (tn_call (hc__law_number_text) (hr.mono (by decide)) (by rfl) tkOf (ta_cons (tn_abs (by rfl) q_abs (ta_cons (tn_call (hc__law_cell_at) (hr.mono (by decide)) (by rfl) tkOf (ta_cons (tn_var 0) (ta_cons tn_int ta_nil))) ta_nil)) ta_nil)) ta_nil))) S.nd)
    (tb_cons (ts_if (tt_cmp cm_isN (tn_var 3) tn_non (nomark _)) (tb_one (ts_set 3 (TrN.up (tn_tup (ta_cons (tn_neg tn_int) (ta_cons tn_int ta_nil)))) S.nd)) tb_nil)
    (tb_cons (ts_set 4 (TrN.up (tn_strI (by rfl) q_str (ta_cons (tn_ix (tn_var 3) tn_int) ta_nil))) S.nd)
    (tb_cons (ts_if (tt_cmp cm_gt (tn_ix (tn_var 3) tn_int) tn_int (nomark _)) (tb_one (ts_set 4 (TrN.up (tn_plus (tn_plus (tn_var 4) tn_str) (tn_strI (by rfl) q_str (ta_cons (tn_ix (tn_var 3) tn_int) ta_nil)))) S.nd)) tb_nil)
    (tb_cons (ts_set 5 (TrN.up (tn_call (hc_show_fraction) (hr.mono (by decide)) (by rfl) tkOf (ta_cons (tn_var 3) ta_nil))) S.nd)
    (tb_one (ts_ret (TrN.up (tn_and (tn_isi "str" (by rfl) q_isinstance (by rfl) q_str (tn_var 5)) (tn_one (tn_cmp (cm_eq (huOf hr)) (tn_var 5) (tn_var 4) (nomark _))))))))))))))))
end
end Ac
set_option Elab.async false
set_option linter.all false
set_option maxRecDepth 100000
set_option maxHeartbeats 0
namespace Ac
theorem law_of (ns : List Int) (_ : ns.length ≤ 63) (h : ∀ z ∈ ns, PySem.Builtin.Int.intBits z ≤ 1048576) : g_law71 [.list (ns.map .int)] (.ok (.dat (.bool true))) := ⟨ns, rfl, h, rfl⟩
end Ac
open PySem PySem.W PySem.Calls PyProof.Rows
theorem PySem.Challenge.cw_acre_k71_numbers_and_points_holds : PySem.Challenge.rw_acre_k71_numbers_and_points.Holds := by
  w_on; o_law
  refine HandSHeadRun.head_any (r := OpenLaw.row PySem.Challenge.rw_acre_k71_numbers_and_points) (q := view (OpenLaw.row PySem.Challenge.rw_acre_k71_numbers_and_points).prog [40]) (H := Hd.hk) (ob := Hd.ob) (M := 4000) (loose := Hd.loose) (d := HandSHeadRun.topDef (OpenLaw.row PySem.Challenge.rw_acre_k71_numbers_and_points).prog 40) (kwd := []) Hd.ob_eq
    (by kernel_rfl) (fun s => by kernel_rfl) Hd.run (by kernel_rfl) (by kernel_rfl) (by kernel_rfl) (by rfl) (by first | assumption | decide +kernel) (by decide +kernel) ⟨rfl, rfl, rfl, rfl, rfl, by decide +kernel⟩ ?hw ?hc
  case hw => w_witness2
  case hc =>
    refine Ac.walkX (l := PySem.Challenge.rw_acre_k71_numbers_and_points) (n := 63) (k := 8) (x := "_law_script") (g := Ac.g_law71) rfl (by decide) (by kernel_rfl) ⟨by decide, by decide, by decide⟩ ?F ?G
    case G => exact Ac.law_of
    intro w mg fa h Y G hmg0
    obtain ⟨K, KX, c⟩ := Y
    have hmg : mg ("law" : PySem.Str) = some (.ref fa) := by
      have e : (HandSHeadRun.topDef (OpenLaw.row PySem.Challenge.rw_acre_k71_numbers_and_points).prog 40).name = ("law" : PySem.Str) := by kernel_rfl
      rw [← e]
      exact hmg0
    obtain ⟨fd, hb, hF⟩ := Ac.fk_law (P := (PySem.Challenge.rw_acre_k71_numbers_and_points).prog) (w := w) KX G c hmg
    exact ⟨K, fd, KX, hb, hF⟩
