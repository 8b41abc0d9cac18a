import PyProof.Rows.All
import Wide.All
import OpenK.AllK
import Wide.FinOn
import HandS.ForMost
import HandS.ForExc
import HandS.Wide
import HandS.WideBits
import KE.DataEq
import HandS.IsInst
import HandS.Style
import HandS.SetFor
import HandS.Conv
import HandS.Defaults
import HandS.More
import HandS.Zip
import HandS.TupSets
import HandS.RevRange
import HandS.ExcIs
import HandS.CallSlots
import HandS.WordsExc
import KE.KExcIs
import HandS.MakeKw
import HandS.ExcInit
import KE.DataFind
import HandS.ExcValue
import HandS.SortRule
import PySem.Challenge.RW_lotmeal_k22_which_are_over
set_option maxHeartbeats 0
set_option Elab.async false
set_option linter.all false
set_option maxRecDepth 100000
/-! DL: a data level over the hand layer: values as PyData, what is owned and what is frozen. -/
namespace DL
open PySem PySem.Spec PyProof.Rows L2

/-! ### the weakest readings -/
def WE (X : Cx) (e : Expr) : TE := fun σ H Q => ∀ pins s, Inv X pins σ H s → wpAny (model X.prog X.w) X.A (eval e X.env) (EP X pins σ Q) X.xe s
def WT (X : Cx) (e : Expr) : TT := fun σ H Q => ∀ pins s, Inv X pins σ H s → wpAny (model X.prog X.w) X.A (isTrue e X.env (eval e X.env)) (TP X pins σ Q) X.xe s
def WA (X : Cx) (es : List Expr) : TA := fun σ H Q => ∀ pos pins s, Inv X pins σ H s → wpAny (model X.prog X.w) X.A (spliced (backTo pos (starEach es X.env))) (AP X pins σ Q) X.xe s
def WS (X : Cx) (st : Stmt) : TS := fun D σ H => ∀ pins s, Inv X pins σ H s → wpAny (model X.prog X.w) X.A (exec st X.env) (SP X pins D) X.xe s
def WB (X : Cx) (st : List Stmt) : TS := fun D σ H => ∀ pins s, Inv X pins σ H s → wpAny (model X.prog X.w) X.A (execs st X.env) (SP X pins D) X.xe s
section
variable {X : Cx} {e : Expr} {es : List Expr} {st : Stmt} {sts : List Stmt} {σ : L2.St} {H : Hp}
theorem pe_w : PE X e (WE X e) := ⟨fun pins s σ H Q I h => h pins s I⟩
theorem pt_w : PT X e (WT X e) := ⟨fun pins s σ H Q I h => h pins s I⟩
theorem pa_w : PA X es (WA X es) := ⟨fun pos pins s σ H Q I h => h pos pins s I⟩
theorem ps_w : PS X st (WS X st) := ⟨fun pins s σ H D I h => h pins s I⟩
theorem pb_w : PSs X sts (WB X sts) := ⟨fun pins s σ H D I h => h pins s I⟩
theorem we_of {t : TE} {Q : VK} (h : PE X e t) (q : t σ H Q) : WE X e σ H Q := fun pins s I => h.run pins s σ H Q I q
theorem wt_of {t : TT} {Q : Bool → Hp → Prop} (h : PT X e t) (q : t σ H Q) : WT X e σ H Q := fun pins s I => h.run pins s σ H Q I q
theorem wa_of {t : TA} {Q : List V → Hp → Prop} (h : PA X es t) (q : t σ H Q) : WA X es σ H Q := fun pos pins s I => h.run pos pins s σ H Q I q
theorem ws_of {t : TS} {D : Ends} (h : PS X st t) (q : t D σ H) : WS X st D σ H := fun pins s I => h.run pins s σ H D I q
theorem wb_of {t : TS} {D : Ends} (h : PSs X sts t) (q : t D σ H) : WB X sts D σ H := fun pins s I => h.run pins s σ H D I q
theorem we_mono {Q Q' : VK} (h : WE X e σ H Q) (m : ∀ v H', Q v H' → Q' v H') : WE X e σ H Q' := fun pins s I =>
  thn (h pins s I) fun u s' ⟨v, H', I', r, q⟩ => ⟨v, H', I', r, m _ _ q⟩
theorem wt_mono {Q Q' : Bool → Hp → Prop} (h : WT X e σ H Q) (m : ∀ v H', Q v H' → Q' v H') : WT X e σ H Q' := fun pins s I =>
  thn (h pins s I) fun u s' ⟨H', I', q⟩ => ⟨H', I', m _ _ q⟩
theorem wa_mono {Q Q' : List V → Hp → Prop} (h : WA X es σ H Q) (m : ∀ v H', Q v H' → Q' v H') : WA X es σ H Q' := fun pos pins s I =>
  thn (h pos pins s I) fun u s' ⟨v, H', I', r, q⟩ => ⟨v, H', I', r, m _ _ q⟩
theorem sp_mono {pins : List (Addr × Obj)} {D D' : Ends} {f : Flow} {s' : Shared} (h : SP X pins D f s') (n : ∀ σ H, D.nx σ H → D'.nx σ H) (r : ∀ v H, D.rt v H → D'.rt v H) (b : ∀ σ H, D.bk σ H → D'.bk σ H) (c : ∀ σ H, D.ct σ H → D'.ct σ H) : SP X pins D' f s' := by
  cases f with
  | next => obtain ⟨σ', H', I, q⟩ := h; exact ⟨σ', H', I, n _ _ q⟩
  | brk => obtain ⟨σ', H', I, q⟩ := h; exact ⟨σ', H', I, b _ _ q⟩
  | cont => obtain ⟨σ', H', I, q⟩ := h; exact ⟨σ', H', I, c _ _ q⟩
  | ret u => obtain ⟨v, σ', H', I, r', q⟩ := h; exact ⟨v, σ', H', I, r', r _ _ q⟩
theorem wb_mono {D D' : Ends} (h : WB X sts D σ H) (n : ∀ σ H, D.nx σ H → D'.nx σ H) (r : ∀ v H, D.rt v H → D'.rt v H) (b : ∀ σ H, D.bk σ H → D'.bk σ H) (c : ∀ σ H, D.ct σ H → D'.ct σ H) : WB X sts D' σ H := fun pins s I =>
  thn (h pins s I) fun f s' q => sp_mono q n r b c
theorem ws_mono {D D' : Ends} (h : WS X st D σ H) (n : ∀ σ H, D.nx σ H → D'.nx σ H) (r : ∀ v H, D.rt v H → D'.rt v H) (b : ∀ σ H, D.bk σ H → D'.bk σ H) (c : ∀ σ H, D.ct σ H → D'.ct σ H) : WS X st D' σ H := fun pins s I =>
  thn (h pins s I) fun f s' q => sp_mono q n r b c
end

/-! ### heaps, hidden addresses -/
open Classical in
noncomputable def Hide (H : Hp) (U : Addr → Prop) : Hp := fun a => if U a then none else H a
theorem hide_eq {H : Hp} {U : Addr → Prop} {a : Addr} (h : ¬ U a) : Hide H U a = H a := by unfold Hide; rw [if_neg h]
theorem hide_none {H : Hp} {U : Addr → Prop} {a : Addr} (h : U a) : Hide H U a = none := by unfold Hide; rw [if_pos h]
theorem hide_some {H : Hp} {U : Addr → Prop} {a : Addr} {o : HO} : Hide H U a = some o ↔ ¬ U a ∧ H a = some o := by
  by_cases h : U a
  · rw [hide_none h]
    exact ⟨fun e => (nomatch e), fun e => absurd h e.1⟩
  · rw [hide_eq h]
    exact ⟨fun e => ⟨h, e⟩, fun e => e.2⟩
theorem hide_sub {H : Hp} {U : Addr → Prop} : Same (Hide H U) H := fun b o e => (hide_some.mp e).2
theorem hide_same {H H' : Hp} {U U' : Addr → Prop} (s : Same H H') (u : ∀ a o, H a = some o → U' a → U a) : Same (Hide H U) (Hide H' U') := fun b o e => by
  obtain ⟨n, e⟩ := hide_some.mp e
  exact hide_some.mpr ⟨fun z => n (u b o e z), s b o e⟩
def MutU (U : Addr → Prop) (H : Hp) : Prop := ∀ a, U a → Mut (H a)
theorem mut_some {x : Option HO} (h : Mut x) : ∃ o, x = some o := by
  cases x with
  | none => exact h.elim
  | some o => exact ⟨o, rfl⟩
theorem MutU.mono {U : Addr → Prop} {H H' : Hp} (m : MutU U H) (s : Same H H') : MutU U H' := fun a h => by
  have q := m a h
  obtain ⟨o, e⟩ := mut_some q
  rw [s a o e, ← e]
  exact q
/-- tuples stay -/
def Tups (H H' : Hp) : Prop := ∀ a xs, Rd H a (.tup xs) → Rd H' a (.tup xs)
theorem Tups.refl (H : Hp) : Tups H H := fun _ _ h => h
theorem Tups.trans {H H1 H2 : Hp} (a : Tups H H1) (b : Tups H1 H2) : Tups H H2 := fun c o h => b c o (a c o h)
theorem Same.tups {H H' : Hp} (s : Same H H') : Tups H H' := fun a xs h => by
  rcases h with h | ⟨o, h⟩
  · exact .inl (s _ _ h)
  · exact .inr ⟨o, s _ _ h⟩
theorem Tups.seq {K : PySem.W.Frag} {H H' : Hp} {a : Addr} {xs : List V} (t : Tups H H') (h : SqT K H a xs) : SqT K H' a xs := by
  rcases h with h | h
  · exact .inl (t _ _ h)
  · exact .inr h
theorem seqT {K : PySem.W.Frag} {H H' : Hp} {a : Addr} {xs : List V} (s : Same H H') (h : SqT K H a xs) : SqT K H' a xs := (Same.tups s).seq h
theorem hide_tups {H : Hp} {U : Addr → Prop} (m : MutU U H) : Tups H (Hide H U) := fun a xs h => by
  have n : ¬ U a := fun z => by
    have q := m a z
    rcases h with h | ⟨o, h⟩ <;> (rw [h] at q; exact q)
  rcases h with h | ⟨o, h⟩
  · exact .inl (hide_some.mpr ⟨n, h⟩)
  · exact .inr ⟨o, hide_some.mpr ⟨n, h⟩⟩
theorem upd_tups {H : Hp} {a : Addr} {o : HO} (m : Mut (H a)) : Tups H (upd H a o) := fun b xs h => by
  have n : b ≠ a := fun z => by
    subst z
    rcases h with h | ⟨o, h⟩ <;> (rw [h] at m; exact m)
  rcases h with h | ⟨u, h⟩
  · exact .inl (by rw [upd_ne n]; exact h)
  · exact .inr ⟨u, by rw [upd_ne n]; exact h⟩
theorem same_new {H : Hp} {p : Addr} {o : HO} (h : H p = none) : Same H (upd H p o) := fun b x e => by
  rw [upd_ne (ne_of_none e h)]
  exact e

/-! ### data: no list within -/
mutual
def lf : PyData → Bool
  | .list _ => false
  | .dict _ => false
  | .tuple xs => lfs xs
  | _ => true
def lfs : List PyData → Bool
  | [] => true
  | x :: xs => lf x && lfs xs
end
theorem lfs_mem : ∀ {xs : List PyData} {i : Nat} {d : PyData}, lfs xs = true → xs[i]? = some d → lf d = true
  | [], _, _, _, h => by simp at h
  | x :: xs, 0, d, h, e => by
    have e' : x = d := by simpa using e
    subst e'
    rw [lfs, Bool.and_eq_true] at h
    exact h.1
  | x :: xs, i + 1, d, h, e => by
    rw [lfs, Bool.and_eq_true] at h
    exact lfs_mem h.2 (by simpa using e)

mutual
inductive Rp (K : PySem.W.Frag) (H : Hp) : V → PyData → Prop
  | non : Rp K H .non .none
  | bl (b : Bool) : Rp K H (.bl b) (.bool b)
  | int (i : Int) : Rp K H (.int i) (.int i)
  | str (x : Str) : Rp K H (.str x) (.str x)
  | lst {a : Addr} {xs : List V} {ds : List PyData} : SqL K H a xs → RpAll K H xs ds → Rp K H (.ref a) (.list ds)
  | tup {a : Addr} {xs : List V} {ds : List PyData} : SqT K H a xs → RpAll K H xs ds → Rp K H (.ref a) (.tuple ds)
inductive RpAll (K : PySem.W.Frag) (H : Hp) : List V → List PyData → Prop
  | nil : RpAll K H [] []
  | cons {v : V} {vs : List V} {d : PyData} {ds : List PyData} : Rp K H v d → RpAll K H vs ds → RpAll K H (v :: vs) (d :: ds)
end
mutual
theorem rp_dp {K : PySem.W.Frag} {H : Hp} : ∀ (d : PyData) (v : V), Rp K H v d → L2.Dp K H v d
  | .none, _, h => by cases h; exact .non
  | .bool b, _, h => by cases h; exact .bl b
  | .int i, _, h => by cases h; exact .int i
  | .str x, _, h => by cases h; exact .str x
  | .list ds, _, h => by
    cases h with
    | lst hs ha => exact .lst hs (rps_dp ds _ ha)
  | .tuple ds, _, h => by
    cases h with
    | tup hs ha => exact .tup hs (rps_dp ds _ ha)
  | .dict _, _, h => by cases h
theorem rps_dp {K : PySem.W.Frag} {H : Hp} : ∀ (ds : List PyData) (vs : List V), RpAll K H vs ds → L2.DpAll K H vs ds
  | [], _, h => by cases h; exact .nil
  | d :: ds, _, h => by
    cases h with
    | cons h1 h2 => exact .cons (rp_dp d _ h1) (rps_dp ds _ h2)
end
theorem same_rd {H H' : Hp} {a : Addr} {u : HO} (s : Same H H') (h : Rd H a u) : Rd H' a u := by
  rcases h with h | ⟨o, h⟩
  · exact .inl (s _ _ h)
  · exact .inr ⟨o, s _ _ h⟩
mutual
theorem dp_sub {K : PySem.W.Frag} {G H : Hp} (s : Same G H) : ∀ (d : PyData) (v : V), Rp K G v d → Rp K H v d
  | .none, _, h => by cases h; exact .non
  | .bool b, _, h => by cases h; exact .bl b
  | .int i, _, h => by cases h; exact .int i
  | .str x, _, h => by cases h; exact .str x
  | .list ds, _, h => by
    cases h with
    | lst hs ha => exact .lst (s.seq hs) (dps_sub s ds _ ha)
  | .tuple ds, _, h => by
    cases h with
    | tup hs ha => exact .tup (seqT s hs) (dps_sub s ds _ ha)
  | .dict _, _, h => by cases h
theorem dps_sub {K : PySem.W.Frag} {G H : Hp} (s : Same G H) : ∀ (ds : List PyData) (vs : List V), RpAll K G vs ds → RpAll K H vs ds
  | [], _, h => by cases h; exact .nil
  | d :: ds, _, h => by
    cases h with
    | cons h1 h2 => exact .cons (dp_sub s d _ h1) (dps_sub s ds _ h2)
end
mutual
theorem dp_lf {K : PySem.W.Frag} {G H : Hp} (t : Tups G H) : ∀ (d : PyData) (v : V), Rp K G v d → lf d = true → Rp K H v d
  | .none, _, h, _ => by cases h; exact .non
  | .bool b, _, h, _ => by cases h; exact .bl b
  | .int i, _, h, _ => by cases h; exact .int i
  | .str x, _, h, _ => by cases h; exact .str x
  | .list ds, _, h, l => by rw [lf] at l; cases l
  | .tuple ds, _, h, l => by
    cases h with
    | tup hs ha => exact .tup (t.seq hs) (dps_lf t ds _ ha (by rw [lf] at l; exact l))
  | .dict _, _, h, _ => by cases h
theorem dps_lf {K : PySem.W.Frag} {G H : Hp} (t : Tups G H) : ∀ (ds : List PyData) (vs : List V), RpAll K G vs ds → lfs ds = true → RpAll K H vs ds
  | [], _, h, _ => by cases h; exact .nil
  | d :: ds, _, h, l => by
    rw [lfs, Bool.and_eq_true] at l
    cases h with
    | cons h1 h2 => exact .cons (dp_lf t d _ h1 l.1) (dps_lf t ds _ h2 l.2)
end
theorem dps_len {K : PySem.W.Frag} {H : Hp} : ∀ {ds : List PyData} {vs : List V}, RpAll K H vs ds → vs.length = ds.length
  | [], _, h => by cases h; rfl
  | d :: ds, _, h => by
    cases h with
    | cons h1 h2 => rw [List.length_cons, List.length_cons, dps_len h2]
theorem dps_get {K : PySem.W.Frag} {H : Hp} : ∀ {ds : List PyData} {vs : List V} {i : Nat} {d : PyData}, RpAll K H vs ds → ds[i]? = some d → ∃ v, vs[i]? = some v ∧ Rp K H v d
  | [], _, _, _, h, e => by simp at e
  | d :: ds, _, 0, _, h, e => by
    cases h with
    | cons h1 h2 =>
      rw [List.getElem?_cons_zero] at e
      cases e
      exact ⟨_, rfl, h1⟩
  | d :: ds, _, i + 1, _, h, e => by
    cases h with
    | cons h1 h2 =>
      obtain ⟨v, a, b⟩ := dps_get h2 (i := i) (by simpa using e)
      exact ⟨v, by simpa using a, b⟩
theorem dps_getV {K : PySem.W.Frag} {H : Hp} : ∀ {ds : List PyData} {vs : List V} {i : Nat} {v : V}, RpAll K H vs ds → vs[i]? = some v → ∃ d, ds[i]? = some d ∧ Rp K H v d := fun {ds vs i v} h e => by
  obtain ⟨hi, e'⟩ := List.getElem?_eq_some_iff.mp e
  have hl := dps_len h
  have hd : i < ds.length := by omega
  obtain ⟨v', a, b⟩ := dps_get h (List.getElem?_eq_getElem hd)
  rw [e] at a
  cases a
  exact ⟨_, List.getElem?_eq_getElem hd, b⟩
theorem dps_app {K : PySem.W.Frag} {H : Hp} : ∀ {ds es : List PyData} {vs ws : List V}, RpAll K H vs ds → RpAll K H ws es → RpAll K H (vs ++ ws) (ds ++ es)
  | [], _, _, _, h, g => by cases h; exact g
  | d :: ds, _, _, _, h, g => by
    cases h with
    | cons h1 h2 => exact .cons h1 (dps_app h2 g)
theorem dps_drop {K : PySem.W.Frag} {H : Hp} : ∀ (n : Nat) {ds : List PyData} {vs : List V}, RpAll K H vs ds → RpAll K H (vs.drop n) (ds.drop n)
  | 0, _, _, h => h
  | n + 1, [], _, h => by cases h; exact .nil
  | n + 1, d :: ds, _, h => by
    cases h with
    | cons h1 h2 => exact dps_drop n h2
theorem dps_take {K : PySem.W.Frag} {H : Hp} : ∀ (n : Nat) {ds : List PyData} {vs : List V}, RpAll K H vs ds → RpAll K H (vs.take n) (ds.take n)
  | 0, _, _, h => .nil
  | n + 1, [], _, h => by cases h; exact .nil
  | n + 1, d :: ds, _, h => by
    cases h with
    | cons h1 h2 => exact .cons h1 (dps_take n h2)
theorem dps_rev {K : PySem.W.Frag} {H : Hp} : ∀ {ds : List PyData} {vs : List V}, RpAll K H vs ds → RpAll K H vs.reverse ds.reverse
  | [], _, h => by cases h; exact .nil
  | d :: ds, _, h => by
    cases h with
    | cons h1 h2 =>
      rw [List.reverse_cons, List.reverse_cons]
      exact dps_app (dps_rev h2) (.cons h1 .nil)
theorem dps_ints {K : PySem.W.Frag} {H : Hp} : ∀ (ns : List Int), RpAll K H (ns.map V.int) (ns.map PyData.int)
  | [] => .nil
  | n :: ns => .cons (.int n) (dps_ints ns)
theorem dps_intsV {K : PySem.W.Frag} {H : Hp} : ∀ {ns : List Int} {vs : List V}, RpAll K H vs (ns.map PyData.int) → vs = ns.map V.int
  | [], _, h => by cases h; rfl
  | n :: ns, _, h => by
    cases h with
    | cons h1 h2 =>
      cases h1
      rw [dps_intsV h2]
      rfl

/-! ### what is owned: list nodes at known addresses -/
mutual
inductive OwnR (K : PySem.W.Frag) (H : Hp) : V → PyData → List Addr → Prop
  | flt {v : V} {d : PyData} : Rp K H v d → lf d = true → OwnR K H v d []
  | lst {a : Addr} {xs : List V} {ds : List PyData} {S : List Addr} : H a = some (.lst xs) → OwnAll K H xs ds S → OwnR K H (.ref a) (.list ds) (a :: S)
  | tup {a : Addr} {xs : List V} {ds : List PyData} {S : List Addr} : H a = some (.tup xs) → OwnAll K H xs ds S → OwnR K H (.ref a) (.tuple ds) S
inductive OwnAll (K : PySem.W.Frag) (H : Hp) : List V → List PyData → List Addr → Prop
  | nil : OwnAll K H [] [] []
  | cons {v : V} {vs : List V} {d : PyData} {ds : List PyData} {S T : List Addr} : OwnR K H v d S → OwnAll K H vs ds T → OwnAll K H (v :: vs) (d :: ds) (S ++ T)
end
mutual
theorem own_mono {K : PySem.W.Frag} {H H' : Hp} (t : Tups H H') (t2 : ∀ a xs, H a = some (.tup xs) → H' a = some (.tup xs)) : ∀ (d : PyData) (v : V) (S : List Addr), OwnR K H v d S → (∀ a ∈ S, ∀ o, H a = some o → H' a = some o) → OwnR K H' v d S
  | d, _, _, .flt h l, _ => .flt (dp_lf t d _ h l) l
  | .list ds, _, _, .lst h ha, k => .lst (k _ List.mem_cons_self _ h) (owns_mono t t2 ds _ _ ha fun a m => k a (List.mem_cons_of_mem _ m))
  | .tuple ds, _, _, .tup h ha, k => .tup (t2 _ _ h) (owns_mono t t2 ds _ _ ha k)
theorem owns_mono {K : PySem.W.Frag} {H H' : Hp} (t : Tups H H') (t2 : ∀ a xs, H a = some (.tup xs) → H' a = some (.tup xs)) : ∀ (ds : List PyData) (vs : List V) (S : List Addr), OwnAll K H vs ds S → (∀ a ∈ S, ∀ o, H a = some o → H' a = some o) → OwnAll K H' vs ds S
  | [], _, _, .nil, _ => .nil
  | d :: ds, _, _, .cons h1 h2, k => .cons (own_mono t t2 d _ _ h1 fun a m => k a (List.mem_append_left _ m)) (owns_mono t t2 ds _ _ h2 fun a m => k a (List.mem_append_right _ m))
end
theorem own_same {K : PySem.W.Frag} {H H' : Hp} {v : V} {d : PyData} {S : List Addr} (s : Same H H') (h : OwnR K H v d S) : OwnR K H' v d S := own_mono (Same.tups s) (fun a xs e => s _ _ e) d v S h fun a _ o e => s a o e
theorem owns_same {K : PySem.W.Frag} {H H' : Hp} {v : List V} {d : List PyData} {S : List Addr} (s : Same H H') (h : OwnAll K H v d S) : OwnAll K H' v d S := owns_mono (Same.tups s) (fun a xs e => s _ _ e) d v S h fun a _ o e => s a o e
mutual
theorem own_dp {K : PySem.W.Frag} {H : Hp} : ∀ (d : PyData) (v : V) (S : List Addr), OwnR K H v d S → Rp K H v d
  | d, _, _, .flt h l => h
  | .list ds, _, _, .lst h ha => .lst (.inl (.inl h)) (owns_dp ds _ _ ha)
  | .tuple ds, _, _, .tup h ha => .tup (.inl (.inl h)) (owns_dp ds _ _ ha)
theorem owns_dp {K : PySem.W.Frag} {H : Hp} : ∀ (ds : List PyData) (vs : List V) (S : List Addr), OwnAll K H vs ds S → RpAll K H vs ds
  | [], _, _, .nil => .nil
  | d :: ds, _, _, .cons h1 h2 => .cons (own_dp d _ _ h1) (owns_dp ds _ _ h2)
end
mutual
theorem own_mem {K : PySem.W.Frag} {H : Hp} : ∀ (d : PyData) (v : V) (S : List Addr), OwnR K H v d S → ∀ a ∈ S, ∃ xs, H a = some (.lst xs)
  | d, _, _, .flt h l, a, m => by cases m
  | .list ds, _, _, .lst h ha, a, m => by
    rcases List.mem_cons.mp m with e | m
    · subst e
      exact ⟨_, h⟩
    · exact owns_mem ds _ _ ha a m
  | .tuple ds, _, _, .tup h ha, a, m => owns_mem ds _ _ ha a m
theorem owns_mem {K : PySem.W.Frag} {H : Hp} : ∀ (ds : List PyData) (vs : List V) (S : List Addr), OwnAll K H vs ds S → ∀ a ∈ S, ∃ xs, H a = some (.lst xs)
  | [], _, _, .nil, a, m => by cases m
  | d :: ds, _, _, .cons h1 h2, a, m => by
    rcases List.mem_append.mp m with m | m
    · exact own_mem d _ _ h1 a m
    · exact owns_mem ds _ _ h2 a m
end
theorem owns_len {K : PySem.W.Frag} {H : Hp} {ds : List PyData} {vs : List V} {S : List Addr} (h : OwnAll K H vs ds S) : vs.length = ds.length := dps_len (owns_dp _ _ _ h)
theorem owns_lf {K : PySem.W.Frag} {H : Hp} : ∀ {ds : List PyData} {vs : List V}, RpAll K H vs ds → lfs ds = true → OwnAll K H vs ds []
  | [], _, h, _ => by cases h; exact .nil
  | d :: ds, _, h, l => by
    rw [lfs, Bool.and_eq_true] at l
    cases h with
    | cons h1 h2 => exact .cons (S := []) (.flt h1 l.1) (owns_lf h2 l.2)
theorem owns_app {K : PySem.W.Frag} {H : Hp} : ∀ {ds es : List PyData} {vs ws : List V} {S T : List Addr}, OwnAll K H vs ds S → OwnAll K H ws es T → OwnAll K H (vs ++ ws) (ds ++ es) (S ++ T)
  | [], _, _, _, _, _, .nil, g => g
  | d :: ds, es, _, ws, _, T, .cons (S := S1) (T := S2) h1 h2, g => by
    rw [List.append_assoc]
    exact .cons h1 (owns_app h2 g)
end DL
namespace DL
open PySem PySem.Spec PyProof.Rows L2

/-! ### paths into what is owned -/
inductive AtV (H : Hp) : V → PyData → List Nat → V → PyData → Prop
  | nil {v : V} {d : PyData} : AtV H v d [] v d
  | lst {a : Addr} {vs : List V} {ds : List PyData} {i : Nat} {w : V} {e : PyData} {p : List Nat} {u : V} {d' : PyData} : H a = some (.lst vs) → vs[i]? = some w → ds[i]? = some e → AtV H w e p u d' → AtV H (.ref a) (.list ds) (i :: p) u d'
  | tup {a : Addr} {vs : List V} {ds : List PyData} {i : Nat} {w : V} {e : PyData} {p : List Nat} {u : V} {d' : PyData} : lf (.tuple ds) = false → H a = some (.tup vs) → vs[i]? = some w → ds[i]? = some e → AtV H w e p u d' → AtV H (.ref a) (.tuple ds) (i :: p) u d'
theorem at_same {H H' : Hp} (s : Same H H') {v : V} {d : PyData} {p : List Nat} {u : V} {d' : PyData} (h : AtV H v d p u d') : AtV H' v d p u d' := by
  induction h with
  | nil => exact .nil
  | lst h1 h2 h3 _ ih => exact .lst (s _ _ h1) h2 h3 ih
  | tup h0 h1 h2 h3 _ ih => exact .tup h0 (s _ _ h1) h2 h3 ih
theorem at_snoc {H : Hp} {v : V} {d : PyData} {p : List Nat} {u : V} {d' : PyData} (h : AtV H v d p u d') {i : Nat} {w : V} {e : PyData} (g : AtV H u d' [i] w e) : AtV H v d (p ++ [i]) w e := by
  induction h with
  | nil => exact g
  | lst h1 h2 h3 _ ih => exact .lst h1 h2 h3 (ih g)
  | tup h0 h1 h2 h3 _ ih => exact .tup h0 h1 h2 h3 (ih g)
def kids : PyData → List PyData
  | .list xs => xs
  | .tuple xs => xs
  | _ => []
def subAt : PyData → List Nat → Option PyData
  | d, [] => some d
  | d, i :: p => match (kids d)[i]? with
    | some e => subAt e p
    | none => none
theorem at_sub {H : Hp} {v : V} {d : PyData} {p : List Nat} {u : V} {d' : PyData} (h : AtV H v d p u d') : subAt d p = some d' := by
  induction h with
  | nil => rfl
  | lst h1 h2 h3 _ ih => unfold subAt kids; simp only [h3]; exact ih
  | tup h0 h1 h2 h3 _ ih => unfold subAt kids; simp only [h3]; exact ih
theorem owns_get {K : PySem.W.Frag} {H : Hp} : ∀ {ds : List PyData} {vs : List V} {S : List Addr} {i : Nat} {w : V} {e : PyData}, OwnAll K H vs ds S → vs[i]? = some w → ds[i]? = some e → ∃ S', OwnR K H w e S' ∧ ∀ a ∈ S', a ∈ S
  | _, _, _, _, _, _, .nil, h, _ => by simp at h
  | _, _, _, 0, _, _, .cons h1 h2, h, g => by
    rw [List.getElem?_cons_zero] at h g
    cases h
    cases g
    exact ⟨_, h1, fun a m => List.mem_append_left _ m⟩
  | _, _, _, i + 1, _, _, .cons h1 h2, h, g => by
    rw [List.getElem?_cons_succ] at h g
    obtain ⟨S', a, b⟩ := owns_get h2 h g
    exact ⟨S', a, fun x m => List.mem_append_right _ (b x m)⟩
theorem own_list {K : PySem.W.Frag} {H : Hp} {v : V} {ds : List PyData} {S : List Addr} (h : OwnR K H v (.list ds) S) : ∃ a xs T, v = .ref a ∧ H a = some (.lst xs) ∧ OwnAll K H xs ds T ∧ S = a :: T := by
  cases h with
  | flt _ l => rw [lf] at l; cases l
  | lst h1 h2 => exact ⟨_, _, _, rfl, h1, h2, rfl⟩
theorem own_tuple {K : PySem.W.Frag} {H : Hp} {v : V} {ds : List PyData} {S : List Addr} (h : OwnR K H v (.tuple ds) S) (l : lf (.tuple ds) = false) : ∃ a xs, v = .ref a ∧ H a = some (.tup xs) ∧ OwnAll K H xs ds S := by
  cases h with
  | flt _ l' => rw [l] at l'; cases l'
  | tup h1 h2 => exact ⟨_, _, rfl, h1, h2⟩
theorem own_at {K : PySem.W.Frag} {H : Hp} {v : V} {d : PyData} {p : List Nat} {u : V} {d' : PyData} (h : AtV H v d p u d') : ∀ {S : List Addr}, OwnR K H v d S → ∃ S', OwnR K H u d' S' ∧ ∀ a ∈ S', a ∈ S := by
  induction h with
  | nil => intro S o; exact ⟨S, o, fun _ m => m⟩
  | lst h1 h2 h3 _ ih =>
    intro S o
    obtain ⟨a, xs, T, e, e1, e2, rfl⟩ := own_list o
    cases e
    rw [h1] at e1
    cases e1
    obtain ⟨S', o', m⟩ := owns_get e2 h2 h3
    obtain ⟨S'', o'', m'⟩ := ih o'
    exact ⟨S'', o'', fun a q => List.mem_cons_of_mem _ (m a (m' a q))⟩
  | tup h0 h1 h2 h3 _ ih =>
    intro S o
    obtain ⟨a, xs, e, e1, e2⟩ := own_tuple o h0
    cases e
    rw [h1] at e1
    cases e1
    obtain ⟨S', o', m⟩ := owns_get e2 h2 h3
    obtain ⟨S'', o'', m'⟩ := ih o'
    exact ⟨S'', o'', fun a q => m a (m' a q)⟩

/-! ### what a slot holds, what an expression gives -/
/-- what is told of an argument when a call is over: nothing, its data, its object -/
inductive OE where
  | n
  | d (x : PyData)
  | o (u : HO)
inductive DE where
  | un
  | fz (d : PyData)
  | ow (d : PyData)
  | al (j : Nat) (p : List Nat)
  | vl (v : V)
  | sh (ds : List PyData)
  | ob (o : HO)
  | rt (j : Nat) (a : Addr)
  | im (f : Option (Option V) → Option Hp)
  | io (r : PyData) (at_ : Nat → Addr) (os : List OE)
abbrev DEnv := List DE
def EntR (K : PySem.W.Frag) (U : Addr → Prop) (ρ : DEnv) (σ : L2.St) (H : Hp) (o : Option (Option V)) : DE → Prop
  | .un => True
  | .fz d => ∃ v, o = some (some v) ∧ Rp K (Hide H U) v d
  | .ow d => ∃ v S, o = some (some v) ∧ OwnR K H v d S ∧ ∀ a ∈ S, U a
  | .al j p => ∃ v w d d', o = some (some v) ∧ ρ[j]? = some (.ow d) ∧ σ[j]? = some (some w) ∧ AtV H w d p v d'
  | .vl v => o = some (some v)
  | .sh _ => True
  | .ob u => ∃ a, o = some (some (.ref a)) ∧ H a = some u
  | .rt _ _ => True
  | .im f => ∃ g, f o = some g ∧ Same g (Hide H U)
  | .io _ _ _ => True
structure EnvR (K : PySem.W.Frag) (U : Addr → Prop) (ρ : DEnv) (σ : L2.St) (H : Hp) : Prop where
  len : ρ.length ≤ σ.length
  get : ∀ (i : Nat) (e : DE), ρ[i]? = some e → EntR K U ρ σ H σ[i]? e
theorem envR_same {K : PySem.W.Frag} {U : Addr → Prop} {ρ : DEnv} {σ : L2.St} {H H' : Hp} (h : EnvR K U ρ σ H) (s : Same H H') : EnvR K U ρ σ H' := ⟨h.len, fun i e he => by
  have q := h.get i e he
  cases e with
  | un => trivial
  | fz d =>
    obtain ⟨v, a, b⟩ := q
    exact ⟨v, a, dp_sub (hide_same s fun _ _ _ z => z) _ _ b⟩
  | ow d =>
    obtain ⟨v, S, a, b, c⟩ := q
    exact ⟨v, S, a, own_same s b, c⟩
  | al j p =>
    obtain ⟨v, w, d, d', a, b, c, e⟩ := q
    exact ⟨v, w, d, d', a, b, c, at_same s e⟩
  | vl v => exact q
  | sh ds => trivial
  | ob u =>
    obtain ⟨a, b, c⟩ := q
    exact ⟨a, b, s _ _ c⟩
  | rt j a => trivial
  | im f =>
    obtain ⟨a, b, c⟩ := q
    exact ⟨a, b, c.trans (hide_same s (fun _ _ _ z => z))⟩
  | io _ _ _ => trivial⟩
/-- what comes of an expression, from the heap H to H' -/
def ResR (K : PySem.W.Frag) (U : Addr → Prop) (ρ : DEnv) (σ : L2.St) (H H' : Hp) (v : V) : DE → Prop
  | .un => True
  | .fz d => Rp K (Hide H' U) v d
  | .ow d => ∃ S, OwnR K H' v d S ∧ S.Nodup ∧ ∀ a ∈ S, H a = none
  | .al j p => ∃ w d d', ρ[j]? = some (.ow d) ∧ σ[j]? = some (some w) ∧ AtV H' w d p v d'
  | .vl v' => v = v'
  | .sh _ => False
  | .ob _ => False
  | .rt _ _ => False
  | .im f => ∃ g, f (some (some v)) = some g ∧ Same g (Hide H' U)
  | .io _ _ _ => False
def RD (X : Cx) (e : Expr) (ρ : DEnv) (Q : DE → Prop) : Prop :=
  ∀ (U : Addr → Prop) (σ : L2.St) (H : Hp), MutU U H → EnvR X.K U ρ σ H → WE X e σ H fun v H' => Same H H' ∧ ∃ o, ResR X.K U ρ σ H H' v o ∧ Q o
/-- as data, wherever it stands -/
def RV (X : Cx) (e : Expr) (ρ : DEnv) (Q : PyData → Prop) : Prop :=
  ∀ (U : Addr → Prop) (σ : L2.St) (H : Hp), MutU U H → EnvR X.K U ρ σ H → WE X e σ H fun v H' => Same H H' ∧ ∃ d, Rp X.K H' v d ∧ Q d
/-- a test -/
def RT (X : Cx) (e : Expr) (ρ : DEnv) (Q : Bool → Prop) : Prop :=
  ∀ (U : Addr → Prop) (σ : L2.St) (H : Hp), MutU U H → EnvR X.K U ρ σ H → WT X e σ H fun b H' => Same H H' ∧ Q b
/-- arguments, as data -/
def RA (X : Cx) (es : List Expr) (ρ : DEnv) (Q : List PyData → Prop) : Prop :=
  ∀ (U : Addr → Prop) (σ : L2.St) (H : Hp), MutU U H → EnvR X.K U ρ σ H → WA X es σ H fun vs H' => Same H H' ∧ ∃ ds, RpAll X.K H' vs ds ∧ Q ds
/-- the data of an entry -/
def dat (ρ : DEnv) : DE → Option PyData
  | .fz d => some d
  | .ow d => some d
  | .al j p => match ρ[j]? with
    | some (.ow d) => subAt d p
    | _ => none
  | _ => none
theorem res_dp {K : PySem.W.Frag} {U : Addr → Prop} {ρ : DEnv} {σ : L2.St} {H H' : Hp} {v : V} {o : DE} {d : PyData} (E : EnvR K U ρ σ H) (s : Same H H') (r : ResR K U ρ σ H H' v o) (h : dat ρ o = some d) : Rp K H' v d := by
  cases o with
  | un => cases h
  | fz e => cases h; exact dp_sub hide_sub _ _ r
  | ow e =>
    cases h
    obtain ⟨S, a, _⟩ := r
    exact own_dp _ _ _ a
  | al j p =>
    obtain ⟨w, e, e', a, b, c⟩ := r
    have hd : subAt e p = some d := by
      have h' : (match ρ[j]? with
        | some (.ow d) => subAt d p
        | _ => none) = some d := h
      rw [a] at h'
      exact h'
    obtain ⟨v', S, q1, q2, _⟩ := E.get j _ a
    rw [b] at q1
    cases q1
    obtain ⟨S', o', _⟩ := own_at c (own_same s q2)
    rw [at_sub c] at hd
    cases hd
    exact own_dp _ _ _ o'
  | vl e => cases h
  | sh e => cases h
  | ob e => cases h
  | rt e a => cases h
  | im f => cases h
  | io _ _ _ => cases h
section
variable {X : Cx} {ρ : DEnv} {a b c : Expr} {es : List Expr} {pos : Pos}
theorem rv_of {Q : PyData → Prop} (h : RD X a ρ fun o => ∃ d, dat ρ o = some d ∧ Q d) : RV X a ρ Q := fun U σ H m E =>
  we_mono (h U σ H m E) fun v H' ⟨s, o, r, d, hd, q⟩ => ⟨s, d, res_dp E s r hd, q⟩
theorem rd_mono {Q Q' : DE → Prop} (h : RD X a ρ Q) (k : ∀ o, Q o → Q' o) : RD X a ρ Q' := fun U σ H m E =>
  we_mono (h U σ H m E) fun v H' ⟨s, o, r, q⟩ => ⟨s, o, r, k o q⟩
theorem rv_mono {Q Q' : PyData → Prop} (h : RV X a ρ Q) (k : ∀ o, Q o → Q' o) : RV X a ρ Q' := fun U σ H m E =>
  we_mono (h U σ H m E) fun v H' ⟨s, o, r, q⟩ => ⟨s, o, r, k o q⟩
theorem rt_mono {Q Q' : Bool → Prop} (h : RT X a ρ Q) (k : ∀ o, Q o → Q' o) : RT X a ρ Q' := fun U σ H m E =>
  wt_mono (h U σ H m E) fun v H' ⟨s, q⟩ => ⟨s, k _ q⟩
/-! ### names, constants -/
theorem rd_name (i : Nat) {x : Str} {Q : DE → Prop} {o : DE} (ho : ρ[i]? = some o) (q : (match o with | .un => False | .fz d => Q (.fz d) | .ow _ => Q (.al i []) | .al j p => Q (.al j p) | .vl v => Q (.vl v) | .sh _ => False | .ob _ => False | .rt _ _ => False | .im _ => False | .io _ _ _ => False))
    (hN : X.N[i]? = some x := by rfl) (hv : Vis X.env.scope x := by first | exact Or.inl rfl | exact Or.inr (Or.inl rfl) | exact Or.inr (Or.inr rfl)) (hd : (x == ("__debug__" : Str)) = false := by decide) (hcd : (x == ("__classdict__" : Str)) = false := by decide) : RD X (.Name x pos) ρ Q := fun U σ H m E => by
  have e := E.get i o ho
  refine we_of (pe_var hN hv hd hcd) ?_
  cases o with
  | un => exact q.elim
  | fz d =>
    obtain ⟨v, e1, e2⟩ := e
    exact ⟨v, e1, Same.refl _, .fz d, e2, q⟩
  | ow d =>
    obtain ⟨v, S, e1, e2, e3⟩ := e
    exact ⟨v, e1, Same.refl _, .al i [], ⟨v, d, d, ho, e1, .nil⟩, q⟩
  | al j p =>
    obtain ⟨v, w, d, d', e1, e2, e3, e4⟩ := e
    exact ⟨v, e1, Same.refl _, .al j p, ⟨w, d, d', e2, e3, e4⟩, q⟩
  | vl v => exact ⟨v, e, Same.refl _, .vl v, rfl, q⟩
  | sh ds => exact q.elim
  | ob u => exact q.elim
  | rt j a => exact q.elim
  | im f => exact q.elim
  | io _ _ _ => exact q.elim
theorem rd_int {i : Int} {j : Nat} {Q : DE → Prop} (q : Q (.fz (.int i))) : RD X (.Constant (.int i) j pos) ρ Q := fun U σ H m E => we_of pe_int ⟨Same.refl _, .fz (.int i), Rp.int i, q⟩
theorem rd_bl {i : Bool} {j : Nat} {Q : DE → Prop} (q : Q (.fz (.bool i))) : RD X (.Constant (.bool i) j pos) ρ Q := fun U σ H m E => we_of pe_bl ⟨Same.refl _, .fz (.bool i), Rp.bl i, q⟩
theorem rd_non {j : Nat} {Q : DE → Prop} (q : Q (.fz .none)) : RD X (.Constant .none j pos) ρ Q := fun U σ H m E => we_of pe_non ⟨Same.refl _, .fz .none, Rp.non, q⟩
theorem rd_str {i : Str} {j : Nat} {Q : DE → Prop} (q : Q (.fz (.str i))) : RD X (.Constant (.str i) j pos) ρ Q := fun U σ H m E => we_of pe_str ⟨Same.refl _, .fz (.str i), Rp.str i, q⟩
/-- a module's constant that is no list -/
theorem rd_glob {x : Str} {u : Value} {v : V} {d : PyData} {Q : DE → Prop} (hm : X.mg x = some u) (r : RelV v u) (hp : ∀ H, Rp X.K H v d) (q : Q (.fz d)) (hg : Gl X x := by rfl) (hd : (x == ("__debug__" : Str)) = false := by decide) : RD X (.Name x pos) ρ Q := fun U σ H m E =>
  we_of (pe_glob hg hm r hd) ⟨Same.refl _, .fz d, hp _, q⟩

/-! ### operators -/
def CDivW' (i j : Int) : Prop := 0 < j ∧ Builtin.divisionGoesByPylong i j = false
theorem op_fdivP : OpR X (binaryOp .FloorDiv) (rI CDivP fun i j => .int (i / j)) := opI fun i j _ _ _ _ _ hc q => by
  have h1 : (0 : Int) < j := hc.1
  exact floordiv_int (by omega) (by rw [Int.fdiv_eq_ediv_of_nonneg i (by omega)]; exact q) (.inl hc.2)
def rCatR (K : PySem.W.Frag) : R2 := fun x y H Q => ∃ l b xs zs, x = .ref l ∧ y = .ref b ∧ SqL K H l xs ∧ SqL K H b zs ∧ xs.length + zs.length ≤ sizeLine ∧ ∀ p, H p = none → Q (.ref p) (upd H p (.lst (xs ++ zs)))
theorem op_catR : OpR X (binaryOp .Add) (rCatR X.K) := by
  intro pins s σ H x y v u Q I rx ry h
  obtain ⟨l, b, xs, zs, rfl, rfl, hH, hB, hz, q⟩ := h
  cases rx
  cases ry
  obtain ⟨its, r, pl, hz1⟩ := I.list hH
  obtain ⟨its2, r2, pl2, hz2⟩ := I.list hB
  have hl := r.length
  have hl2 := r2.length
  obtain ⟨⟨cls, dd, data, sl⟩, ho, hc, n, hd⟩ := pl.isList
  obtain ⟨⟨cls2, dd2, data2, sl2⟩, ho2, hc2, n2, hd2⟩ := pl2.isList
  simp only at hc hd hc2 hd2
  subst hc hd hc2 hd2
  refine concat_meets ⟨_, ho, rfl⟩ ⟨_, ho2, rfl⟩ noFill_list_add seq_list_add PySem.F.slot_list_add PySem.F.entry_list_add (PySem.F.args_list_add_2 _ _) (list_addW l b its.toArray its2.toArray n n2 dd dd2 sl sl2 (by rw [List.size_toArray, List.size_toArray]; omega)) ⟨ho, ho2, ?_⟩
  have ea : its.toArray ++ its2.toArray = (its ++ its2).toArray := by simp
  rw [ea]
  exact ⟨.ref _, _, I.lnew (t' := s.toks) (r.append r2) (by rw [List.length_append]; omega), rfl, q _ I.fresh⟩
/-- the operators: what is asked, what comes -/
def arD : Operator → PyData → PyData → Option (Prop × DE)
  | .Add, .int i, .int j => some (True, .fz (.int (i + j)))
  | .Sub, .int i, .int j => some (True, .fz (.int (i - j)))
  | .Mult, .int i, .int j => some (CMulW i j, .fz (.int (i * j)))
  | .FloorDiv, .int i, .int j => some (CDivP i j, .fz (.int (i / j)))
  | .Mod, .int i, .int j => some (0 < j, .fz (.int (i % j)))
  | .Pow, .int i, .int j => some (CPow i j, .fz (.int (i ^ j.toNat)))
  | .Add, .str x, .str y => some (x.length + y.length ≤ sizeLine, .fz (.str (x ++ y)))
  | .Add, .list xs, .list ys => some (lfs xs = true ∧ lfs ys = true ∧ xs.length + ys.length ≤ sizeLine, .ow (.list (xs ++ ys)))
  | _, _, _ => none
theorem ow_new {K : PySem.W.Frag} {H : Hp} {p : Addr} {vs : List V} {ds : List PyData} (hp : H p = none) (h : RpAll K H vs ds) (l : lfs ds = true) :
    ∃ S, OwnR K (upd H p (.lst vs)) (.ref p) (.list ds) S ∧ S.Nodup ∧ ∀ a ∈ S, H a = none :=
  ⟨[p], .lst upd_same (owns_lf (dps_sub (same_new hp) _ _ h) l), by simp, fun a m => by simp at m; rw [m]; exact hp⟩
theorem lfs_app : ∀ {xs ys : List PyData}, lfs xs = true → lfs ys = true → lfs (xs ++ ys) = true
  | [], _, _, h => h
  | x :: xs, ys, h, g => by
    rw [lfs, Bool.and_eq_true] at h
    rw [List.cons_append, lfs, Bool.and_eq_true]
    exact ⟨h.1, lfs_app h.2 g⟩
theorem ResR.sub {K : PySem.W.Frag} {U : Addr → Prop} {σ : L2.St} {H H1 H2 : Hp} {v : V} {o : DE} (s : Same H H1) (h : ResR K U ρ σ H1 H2 v o) : ResR K U ρ σ H H2 v o := by
  cases o with
  | ow d =>
    obtain ⟨S, a, b, c⟩ := h
    exact ⟨S, a, b, fun x m => s.free (c x m)⟩
  | al j p => exact h
  | un => trivial
  | fz d => exact h
  | vl d => exact h
  | sh d => exact h.elim
  | ob d => exact h.elim
  | rt j a => exact h.elim
  | im f => exact h
  | io _ _ _ => exact h.elim
theorem rd_ar {op : Operator} {Q : DE → Prop} (h : RV X a ρ fun d1 => RV X b ρ fun d2 => ∃ c o, arD op d1 d2 = some (c, o) ∧ c ∧ Q o) : RD X (.BinOp a op b pos) ρ Q := fun U σ H m E => by
  have key : ∀ {r : R2}, OpR X (binaryOp op) r → (WE X a σ H fun x H1 => WE X b σ H1 fun y H2 => r x y H2 fun v H' => Same H H' ∧ ∃ o, ResR X.K U ρ σ H H' v o ∧ Q o) → WE X (.BinOp a op b pos) σ H fun v H' => Same H H' ∧ ∃ o, ResR X.K U ρ σ H H' v o ∧ Q o := fun ho hh => we_of (pe_op ho pe_w pe_w) hh
  intro pins s I
  refine wpAny_BinOp (thn (h U σ H m E pins s I) fun v s1 ⟨x, H1, I1, r1, e1, d1, p1, h2⟩ => ?_)
  refine thn (h2 U σ H1 (m.mono e1) (envR_same E e1) pins s1 I1) fun u s2 ⟨y, H2, I2, r2, e2, d2, p2, c, o, ho, hc, q⟩ => ?_
  have p1' : Rp X.K H2 x d1 := dp_sub e2 _ _ p1
  have e12 : Same H H2 := e1.trans e2
  have fin : ∀ {r : R2}, OpR X (binaryOp op) r → r x y H2 (fun v H' => Same H2 H' ∧ ResR X.K U ρ σ H2 H' v o) → wpAny (model X.prog X.w) X.A (binaryOp op v u) (EP X pins σ fun v H' => Same H H' ∧ ∃ o, ResR X.K U ρ σ H H' v o ∧ Q o) X.xe s2 := fun hr hh =>
    thn (hr pins s2 σ H2 x y v u _ I2 r1 r2 hh) fun w s3 ⟨z, H3, I3, r3, s3', q3⟩ => ⟨z, H3, I3, r3, e12.trans s3', o, q3.sub e12, q⟩
  unfold arD at ho
  split at ho <;> (try cases ho)
  · cases p1'; cases p2; exact fin op_add ⟨_, _, rfl, rfl, Same.refl _, .int _⟩
  · cases p1'; cases p2; exact fin op_sub ⟨_, _, rfl, rfl, Same.refl _, .int _⟩
  · cases p1'; cases p2; exact fin op_mulW ⟨_, _, rfl, rfl, hc, Same.refl _, .int _⟩
  · cases p1'; cases p2; exact fin op_fdivP ⟨_, _, rfl, rfl, hc, Same.refl _, .int _⟩
  · cases p1'; cases p2; exact fin op_mod ⟨_, _, rfl, rfl, hc, Same.refl _, .int _⟩
  · cases p1'; cases p2; exact fin op_pow ⟨_, _, rfl, rfl, hc, Same.refl _, .int _⟩
  · cases p1'; cases p2; exact fin op_add_str ⟨_, _, rfl, rfl, hc, Same.refl _, .str _⟩
  · cases p1' with
    | lst a1 a2 =>
      cases p2 with
      | lst b1 b2 =>
        refine fin op_catR ⟨_, _, _, _, rfl, rfl, a1, b1, by rw [dps_len a2, dps_len b2]; exact hc.2.2, fun p hp => ⟨same_new hp, ?_⟩⟩
        exact ow_new hp (dps_app a2 b2) (lfs_app hc.1 hc.2.1)
end
end DL
namespace DL
open PySem PySem.Spec PyProof.Rows L2

mutual
theorem rp_plain {K : PySem.W.Frag} {H : Hp} : ∀ (d : PyData) (v : V), Rp K H v d → d.plain = true
  | .none, _, h => rfl
  | .bool b, _, h => rfl
  | .int i, _, h => rfl
  | .str x, _, h => rfl
  | .list ds, _, h => by
    cases h with
    | lst hs ha => rw [PyData.plain]; exact rps_plain ds _ ha
  | .tuple ds, _, h => by
    cases h with
    | tup hs ha => rw [PyData.plain]; exact rps_plain ds _ ha
  | .dict _, _, h => by cases h
theorem rps_plain {K : PySem.W.Frag} {H : Hp} : ∀ (ds : List PyData) (vs : List V), RpAll K H vs ds → PyData.plainAll ds = true
  | [], _, h => rfl
  | d :: ds, _, h => by
    cases h with
    | cons h1 h2 =>
      rw [PyData.plainAll, Bool.and_eq_true]
      exact ⟨rp_plain d _ h1, rps_plain ds _ h2⟩
end
def isNn : PyData → Bool
  | .none => true
  | _ => false
/-- comparisons: what is asked, what comes -/
def cmD : CmpOp → PyData → PyData → Option (Prop × Bool)
  | .Lt, .int i, .int j => some (True, decide (i < j))
  | .LtE, .int i, .int j => some (True, decide (i ≤ j))
  | .Gt, .int i, .int j => some (True, decide (j < i))
  | .GtE, .int i, .int j => some (True, decide (j ≤ i))
  | .Eq, .int i, .int j => some (True, decide (i = j))
  | .NotEq, .int i, .int j => some (True, !decide (i = j))
  | .Eq, d, e => some (min d.depth e.depth ≤ 60, PyData.eqv d e)
  | .NotEq, d, e => some (min d.depth e.depth ≤ 60, !PyData.eqv d e)
  | .In, d, .list ds => some (min (PyData.depthAll ds) d.depth ≤ 60, ds.any fun y => PyData.eqv y d)
  | .NotIn, d, .list ds => some (min (PyData.depthAll ds) d.depth ≤ 60, !ds.any fun y => PyData.eqv y d)
  | .In, d, .tuple ds => some (min (PyData.depthAll ds) d.depth ≤ 60, ds.any fun y => PyData.eqv y d)
  | .NotIn, d, .tuple ds => some (min (PyData.depthAll ds) d.depth ≤ 60, !ds.any fun y => PyData.eqv y d)
  | .Is, d, .none => some (True, isNn d)
  | .IsNot, d, .none => some (True, !isNn d)
  | .Is, .bool a, .bool b => some (True, decide (a = b))
  | .IsNot, .bool a, .bool b => some (True, !decide (a = b))
  | _, _, _ => none
theorem isNn_of {K : PySem.W.Frag} {H : Hp} {x : V} {d : PyData} (h : Rp K H x d) : decide (x = .non) = isNn d := by
  cases h <;> rfl
section
variable {X : Cx} {ρ : DEnv} {a b c : Expr} {es rest : List Expr} {pos : Pos}
theorem cm_ok {op : CmpOp} {pins : List (Addr × Obj)} {s : Shared} {σ : L2.St} {H : Hp} {x y : V} {v u : Value} {d1 d2 : PyData} {k : Prop} {r : Bool} {Q : VK} (hu : X.A.units + 65 < cLine) (I : Inv X pins σ H s) (rx : RelV x v) (ry : RelV y u)
    (p1 : Rp X.K H x d1) (p2 : Rp X.K H y d2) (h : cmD op d1 d2 = some (k, r)) (hk : k) (q : Q (.bl r) H) : wpAny (model X.prog X.w) X.A (compareOp op v u) (EP X pins σ Q) X.xe s := by
  have I1 := I
  unfold cmD at h
  split at h <;> (try cases h)
  · cases p1; cases p2; exact op_lt pins s σ H _ _ v u Q I rx ry ⟨_, _, rfl, rfl, q⟩
  · cases p1; cases p2; exact op_le pins s σ H _ _ v u Q I rx ry ⟨_, _, rfl, rfl, q⟩
  · cases p1; cases p2; exact op_gt pins s σ H _ _ v u Q I rx ry ⟨_, _, rfl, rfl, q⟩
  · cases p1; cases p2; exact op_ge pins s σ H _ _ v u Q I rx ry ⟨_, _, rfl, rfl, q⟩
  · cases p1; cases p2; refine op_eq pins s σ H _ _ v u Q I rx ry ⟨rfl, ?_⟩; rw [dec_int, Bool.beq_eq_decide_eq]; exact q
  · cases p1; cases p2; refine op_ne pins s σ H _ _ v u Q I rx ry ⟨rfl, ?_⟩; rw [dec_int, Bool.beq_eq_decide_eq]; exact q
  · obtain ⟨as, r1⟩ := Dp.reads I _ x v (rp_dp _ _ p1) rx
    obtain ⟨bs, r2⟩ := Dp.reads I _ y u (rp_dp _ _ p2) ry
    exact SeqAt.eq_plain r1 r2 (rp_plain _ _ p1) (rp_plain _ _ p2) (by omega) ⟨.bl _, H, I, rfl, q⟩
  · obtain ⟨as, r1⟩ := Dp.reads I _ x v (rp_dp _ _ p1) rx
    obtain ⟨bs, r2⟩ := Dp.reads I _ y u (rp_dp _ _ p2) ry
    exact SeqAt.ne_plain r1 r2 (rp_plain _ _ p1) (rp_plain _ _ p2) (by omega) ⟨.bl _, H, I, rfl, q⟩
  · obtain ⟨as, r1⟩ := Dp.reads I _ x v (rp_dp _ _ p1) rx
    obtain ⟨bs, r2⟩ := Dp.reads I _ y u (rp_dp _ _ p2) ry
    have pl := rp_plain _ _ p2
    rw [PyData.plain] at pl
    exact SeqAt.in_list_data r2 r1 pl (rp_plain _ _ p1) (by omega) ⟨.bl _, H, I, rfl, q⟩
  · obtain ⟨as, r1⟩ := Dp.reads I _ x v (rp_dp _ _ p1) rx
    obtain ⟨bs, r2⟩ := Dp.reads I _ y u (rp_dp _ _ p2) ry
    have pl := rp_plain _ _ p2
    rw [PyData.plain] at pl
    exact SeqAt.notIn_list_data r2 r1 pl (rp_plain _ _ p1) (by omega) ⟨.bl _, H, I, rfl, q⟩
  · obtain ⟨as, r1⟩ := Dp.reads I _ x v (rp_dp _ _ p1) rx
    obtain ⟨bs, r2⟩ := Dp.reads I _ y u (rp_dp _ _ p2) ry
    have pl := rp_plain _ _ p2
    rw [PyData.plain] at pl
    exact SeqAt.in_tuple_data r2 r1 pl (rp_plain _ _ p1) (by omega) ⟨.bl _, H, I, rfl, q⟩
  · obtain ⟨as, r1⟩ := Dp.reads I _ x v (rp_dp _ _ p1) rx
    obtain ⟨bs, r2⟩ := Dp.reads I _ y u (rp_dp _ _ p2) ry
    have pl := rp_plain _ _ p2
    rw [PyData.plain] at pl
    exact SeqAt.notIn_tuple_data r2 r1 pl (rp_plain _ _ p1) (by omega) ⟨.bl _, H, I, rfl, q⟩
  · rw [← isNn_of p1] at q
    cases p2
    exact op_isN pins s σ H _ _ v u Q I rx ry ⟨rfl, q⟩
  · rw [← isNn_of p1] at q
    cases p2
    exact op_notN pins s σ H _ _ v u Q I rx ry ⟨rfl, q⟩
  · cases p1; cases p2; exact op_isBl pins s σ H _ _ v u Q I rx ry ⟨_, _, rfl, rfl, q⟩
  · cases p1; cases p2; exact op_notBl pins s σ H _ _ v u Q I rx ry ⟨_, _, rfl, rfl, q⟩
theorem rd_cmp {op : CmpOp} {Q : DE → Prop} (hu : X.A.units + 65 < cLine) (h : RV X a ρ fun d1 => RV X b ρ fun d2 => ∃ k r, cmD op d1 d2 = some (k, r) ∧ k ∧ Q (.fz (.bool r)))
    (hm : behindInMarks op b = false := by first | exact nomark _ | rfl) : RD X (.Compare a [op] [b] pos) ρ Q := fun U σ H m E => by
  intro pins s I
  refine wpAny_Compare1 (thn (h U σ H m E pins s I) fun v s1 ⟨x, H1, I1, r1, e1, d1, p1, h2⟩ => ?_) hm
  refine thn (h2 U σ H1 (m.mono e1) (envR_same E e1) pins s1 I1) fun u s2 ⟨y, H2, I2, r2, e2, d2, p2, k, r, ho, hk, q⟩ => ?_
  exact cm_ok hu I2 r1 r2 (dp_sub e2 _ _ p1) p2 ho hk ⟨e1.trans e2, .fz (.bool r), Rp.bl r, q⟩
theorem rt_cmp {op : CmpOp} {Q : Bool → Prop} (hu : X.A.units + 65 < cLine) (h : RV X a ρ fun d1 => RV X b ρ fun d2 => ∃ k r, cmD op d1 d2 = some (k, r) ∧ k ∧ Q r)
    (hm : behindInMarks op b = false := by first | exact nomark _ | rfl) : RT X (.Compare a [op] [b] pos) ρ Q := fun U σ H m E => by
  intro pins s I
  refine wpAny_isTrue_Compare1 (thn (h U σ H m E pins s I) fun v s1 ⟨x, H1, I1, r1, e1, d1, p1, h2⟩ => ?_) hm
  refine thn (h2 U σ H1 (m.mono e1) (envR_same E e1) pins s1 I1) fun u s2 ⟨y, H2, I2, r2, e2, d2, p2, k, r, ho, hk, q⟩ => ?_
  refine thn (cm_ok (Q := fun z H' => z = .bl r ∧ H' = H2) hu I2 r1 r2 (dp_sub e2 _ _ p1) p2 ho hk ⟨rfl, rfl⟩) fun w s3 ⟨z, H3, I3, r3, ez, eH⟩ => ?_
  subst ez eH
  cases r3
  exact wpAny_truthy_bool ⟨_, I3, e1.trans e2, q⟩
/-- a op b op' c -/
theorem rt_chain {op op' : CmpOp} {Q : Bool → Prop} (hu : X.A.units + 65 < cLine)
    (h : RV X a ρ fun d1 => RV X b ρ fun d2 => ∃ k r, cmD op d1 d2 = some (k, r) ∧ k ∧ ((r = false → Q false) ∧ (r = true → RV X c ρ fun d3 => ∃ k' r', cmD op' d2 d3 = some (k', r') ∧ k' ∧ Q r')))
    (hm : lastMarks [op, op'] [b, c] = false := by with_unfolding_all rfl) : RT X (.Compare a [op, op'] [b, c] pos) ρ Q := fun U σ H m E => by
  intro pins s I
  refine isTrue_chain (thn (h U σ H m E pins s I) fun v s1 ⟨x, H1, I1, r1, e1, d1, p1, h2⟩ => ?_) hm
  refine test_link (thn (h2 U σ H1 (m.mono e1) (envR_same E e1) pins s1 I1) fun u s2 ⟨y, H2, I2, r2, e2, d2, p2, k, r, ho, hk, q0, q1⟩ => ?_)
  refine thn (cm_ok (Q := fun z H' => z = .bl r ∧ H' = H2) hu I2 r1 r2 (dp_sub e2 _ _ p1) p2 ho hk ⟨rfl, rfl⟩) fun w s3 ⟨z, H3, I3, r3, ez, eH⟩ => ?_
  subst ez eH
  cases r3
  refine wpAny_truthy_bool ?_
  have e12 : Same H H3 := e1.trans e2
  cases r with
  | false => exact ite_ff ⟨H3, I3, e12, q0 rfl⟩
  | true =>
    refine ite_tt (test_last (thn (q1 rfl U σ H3 (m.mono e12) (envR_same E e12) pins s3 I3) fun w' s4 ⟨z', H4, I4, r4, e4, d3, p3, k', r', ho', hk', q'⟩ => ?_))
    refine thn (cm_ok (Q := fun z H' => z = .bl r' ∧ H' = H4) hu I4 r2 r4 (dp_sub e4 _ _ p2) p3 ho' hk' ⟨rfl, rfl⟩) fun w5 s5 ⟨z5, H5, I5, r5, ez5, eH5⟩ => ?_
    subst ez5 eH5
    cases r5
    exact wpAny_truthy_bool ⟨_, I5, e12.trans e4, q'⟩
theorem rd_chain {op op' : CmpOp} {Q : DE → Prop} (hu : X.A.units + 65 < cLine)
    (h : RV X a ρ fun d1 => RV X b ρ fun d2 => ∃ k r, cmD op d1 d2 = some (k, r) ∧ k ∧ ((r = false → Q (.fz (.bool false))) ∧ (r = true → RV X c ρ fun d3 => ∃ k' r', cmD op' d2 d3 = some (k', r') ∧ k' ∧ Q (.fz (.bool r')))))
    (hm : lastMarks [op, op'] [b, c] = false := by with_unfolding_all rfl) : RD X (.Compare a [op, op'] [b, c] pos) ρ Q := fun U σ H m E => by
  intro pins s I
  refine Compare_chain (thn (h U σ H m E pins s I) fun v s1 ⟨x, H1, I1, r1, e1, d1, p1, h2⟩ => ?_) hm
  refine chain_link (thn (h2 U σ H1 (m.mono e1) (envR_same E e1) pins s1 I1) fun u s2 ⟨y, H2, I2, r2, e2, d2, p2, k, r, ho, hk, q0, q1⟩ => ?_)
  refine thn (cm_ok (Q := fun z H' => z = .bl r ∧ H' = H2) hu I2 r1 r2 (dp_sub e2 _ _ p1) p2 ho hk ⟨rfl, rfl⟩) fun w s3 ⟨z, H3, I3, r3, ez, eH⟩ => ?_
  subst ez eH
  cases r3
  refine wpAny_truthy_bool ?_
  have e12 : Same H H3 := e1.trans e2
  cases r with
  | false => exact ite_ff ⟨.bl false, H3, I3, rfl, e12, .fz (.bool false), Rp.bl _, q0 rfl⟩
  | true =>
    refine ite_tt (chain_last (thn (q1 rfl U σ H3 (m.mono e12) (envR_same E e12) pins s3 I3) fun w' s4 ⟨z', H4, I4, r4, e4, d3, p3, k', r', ho', hk', q'⟩ => ?_))
    exact cm_ok hu I4 r2 r4 (dp_sub e4 _ _ p2) p3 ho' hk' ⟨e12.trans e4, .fz (.bool r'), Rp.bl _, q'⟩

/-! ### and, or, not -/
/-- a value that is a bool, as a test -/
theorem rt_val {Q : Bool → Prop} (h : RV X a ρ fun d => ∃ c, d = .bool c ∧ Q c) (he : ∀ whole, isTrue a X.env whole = (do let v ← whole; standAt a.pos; holding [v] (truthy v)) := by intro _; rfl) : RT X a ρ Q := fun U σ H m E =>
  wt_of (pt_val pe_w he) (we_mono (h U σ H m E) fun v H' ⟨s, d, p, c, e, q⟩ => by
    subst e
    cases p
    exact ⟨c, rfl, s, q⟩)
theorem rt_not {Q : Bool → Prop} (h : RT X a ρ fun r => Q (!r)) : RT X (.UnaryOp .Not a pos) ρ Q := fun U σ H m E =>
  wt_of (pt_not pt_w) (wt_mono (h U σ H m E) fun b H' q => q)
def RW (X : Cx) (e : Expr) (ρ : DEnv) (Q : Bool → Prop) : Prop :=
  ∀ (U : Addr → Prop) (σ : L2.St) (H : Hp), MutU U H → EnvR X.K U ρ σ H → ∃ t, PW X e t ∧ t σ H fun b H' => Same H H' ∧ Q b
theorem rw_and1 {Q : Bool → Prop} (h : RT X a ρ Q) : RW X (.BoolOp .And [a] pos) ρ Q := fun U σ H m E => ⟨_, pw_and1 pt_w, h U σ H m E⟩
theorem rw_or1 {Q : Bool → Prop} (h : RT X a ρ Q) : RW X (.BoolOp .Or [a] pos) ρ Q := fun U σ H m E => ⟨_, pw_or1 pt_w, h U σ H m E⟩
def WW (X : Cx) (e : Expr) : TT := fun σ H Q => ∀ whole pins s, Inv X pins σ H s → wpAny (model X.prog X.w) X.A (isTrue e X.env whole) (TP X pins σ Q) X.xe s
theorem pw_w : PW X a (WW X a) := ⟨fun wh pins s σ H Q I h => h wh pins s I⟩
theorem rw_and {Q : Bool → Prop} (h : RT X a ρ fun r => (r = false → Q false) ∧ (r = true → RW X (.BoolOp .And (b :: rest) pos) ρ Q)) : RW X (.BoolOp .And (a :: b :: rest) pos) ρ Q := fun U σ H m E => by
  refine ⟨_, pw_and pt_w pw_w, wt_mono (h U σ H m E) fun r H1 ⟨e1, q0, q1⟩ => ?_⟩
  cases r with
  | false => exact iteF ⟨e1, q0 rfl⟩
  | true =>
    refine iteT ?_
    obtain ⟨t, pt, ht⟩ := q1 rfl U σ H1 (m.mono e1) (envR_same E e1)
    exact fun wh pins s I => thn (pt.run wh pins s σ H1 _ I ht) fun b s' ⟨H', I', e', q⟩ => ⟨H', I', e1.trans e', q⟩
theorem rw_or {Q : Bool → Prop} (h : RT X a ρ fun r => (r = true → Q true) ∧ (r = false → RW X (.BoolOp .Or (b :: rest) pos) ρ Q)) : RW X (.BoolOp .Or (a :: b :: rest) pos) ρ Q := fun U σ H m E => by
  refine ⟨_, pw_or pt_w pw_w, wt_mono (h U σ H m E) fun r H1 ⟨e1, q0, q1⟩ => ?_⟩
  cases r with
  | true => exact iteT ⟨e1, q0 rfl⟩
  | false =>
    refine iteF ?_
    obtain ⟨t, pt, ht⟩ := q1 rfl U σ H1 (m.mono e1) (envR_same E e1)
    exact fun wh pins s I => thn (pt.run wh pins s σ H1 _ I ht) fun b s' ⟨H', I', e', q⟩ => ⟨H', I', e1.trans e', q⟩
theorem rt_bool {Q : Bool → Prop} (h : RW X a ρ Q) : RT X a ρ Q := fun U σ H m E => by
  obtain ⟨t, pt, ht⟩ := h U σ H m E
  exact wt_of pt.pt ht
/-- as values -/
theorem rd_one {op} {Q : DE → Prop} (h : RD X a ρ Q) : RD X (.BoolOp op [a] pos) ρ Q := fun U σ H m E => we_of (pe_one pe_w) (h U σ H m E)
theorem rd_and {Q : DE → Prop} (h : RV X a ρ fun d => ∃ r, d = .bool r ∧ (r = false → Q (.fz (.bool false))) ∧ (r = true → RD X (.BoolOp .And (b :: rest) pos) ρ Q)) : RD X (.BoolOp .And (a :: b :: rest) pos) ρ Q := fun U σ H m E => by
  refine we_of (pe_and pe_w pe_w) (we_mono (h U σ H m E) fun v H1 ⟨e1, d, p, r, ed, q0, q1⟩ => ?_)
  subst ed
  cases p
  refine ⟨r, rfl, ?_⟩
  cases r with
  | false => exact iteF ⟨e1, .fz (.bool false), Rp.bl _, q0 rfl⟩
  | true => exact iteT (we_mono (q1 rfl U σ H1 (m.mono e1) (envR_same E e1)) fun v H' ⟨e', o, r', q⟩ => ⟨e1.trans e', o, r'.sub e1, q⟩)
theorem rd_or {Q : DE → Prop} (h : RV X a ρ fun d => ∃ r, d = .bool r ∧ (r = true → Q (.fz (.bool true))) ∧ (r = false → RD X (.BoolOp .Or (b :: rest) pos) ρ Q)) : RD X (.BoolOp .Or (a :: b :: rest) pos) ρ Q := fun U σ H m E => by
  refine we_of (pe_or pe_w pe_w) (we_mono (h U σ H m E) fun v H1 ⟨e1, d, p, r, ed, q0, q1⟩ => ?_)
  subst ed
  cases p
  refine ⟨r, rfl, ?_⟩
  cases r with
  | true => exact iteT ⟨e1, .fz (.bool true), Rp.bl _, q0 rfl⟩
  | false => exact iteF (we_mono (q1 rfl U σ H1 (m.mono e1) (envR_same E e1)) fun v H' ⟨e', o, r', q⟩ => ⟨e1.trans e', o, r'.sub e1, q⟩)
theorem rd_not {Q : DE → Prop} (h : RV X a ρ fun d => ∃ r, d = .bool r ∧ Q (.fz (.bool (!r)))) : RD X (.UnaryOp .Not a pos) ρ Q := fun U σ H m E =>
  we_of (pe_not pe_w) (we_mono (h U σ H m E) fun v H' ⟨s, d, p, r, e, q⟩ => by
    subst e
    cases p
    exact ⟨r, rfl, s, .fz (.bool (!r)), Rp.bl _, q⟩)
theorem rd_neg {Q : DE → Prop} (h : RV X a ρ fun d => ∃ i, d = .int i ∧ Q (.fz (.int (-i)))) : RD X (.UnaryOp .USub a pos) ρ Q := fun U σ H m E =>
  we_of (pe_un un_neg pe_w) (we_mono (h U σ H m E) fun v H' ⟨s, d, p, r, e, q⟩ => by
    subst e
    cases p
    exact ⟨r, rfl, s, .fz (.int (-r)), Rp.int _, q⟩)
end
end DL
namespace DL
open PySem PySem.Spec PyProof.Rows L2

/-! ### results, in normal form: what holds no list is frozen -/
def nrm (d : PyData) : DE := match lf d with
  | true => .fz d
  | false => .ow d
theorem res_nrm {K : PySem.W.Frag} {U : Addr → Prop} {ρ : DEnv} {σ : L2.St} {H H' : Hp} {v : V} {d : PyData} {S : List Addr} (m : MutU U H') (h : OwnR K H' v d S) (n : S.Nodup) (f : ∀ a ∈ S, H a = none) : ResR K U ρ σ H H' v (nrm d) := by
  unfold nrm
  cases e : lf d with
  | true => exact dp_lf (hide_tups m) _ _ (own_dp _ _ _ h) e
  | false => exact ⟨S, h, n, f⟩
theorem dat_nrm {ρ : DEnv} {d : PyData} : dat ρ (nrm d) = some d := by
  unfold nrm
  cases e : lf d <;> rfl
theorem owns_getS {K : PySem.W.Frag} {H : Hp} : ∀ {ds : List PyData} {vs : List V} {S : List Addr} {i : Nat} {w : V} {e : PyData}, OwnAll K H vs ds S → vs[i]? = some w → ds[i]? = some e → ∃ S', OwnR K H w e S' ∧ S'.Sublist S
  | _, _, _, _, _, _, .nil, h, _ => by simp at h
  | _, _, _, 0, _, _, .cons h1 h2, h, g => by
    rw [List.getElem?_cons_zero] at h g
    cases h
    cases g
    exact ⟨_, h1, List.sublist_append_left _ _⟩
  | _, _, _, i + 1, _, _, .cons h1 h2, h, g => by
    rw [List.getElem?_cons_succ] at h g
    obtain ⟨S', a, b⟩ := owns_getS h2 h g
    exact ⟨S', a, b.trans (List.sublist_append_right _ _)⟩
/-! ### places by an index -/
theorem atI_ix {α : Type} {xs : List α} {i : Int} {x : α} (h : atI xs i = some x) : ∃ j, ixN xs.length i = some j ∧ xs[j]? = some x := by
  unfold atI at h
  cases e : ixN xs.length i with
  | none => rw [e] at h; cases h
  | some j => rw [e] at h; exact ⟨j, rfl, h⟩
theorem ix_atI {α : Type} {xs : List α} {i : Int} {x : α} {j : Nat} (h : ixN xs.length i = some j) (g : xs[j]? = some x) : atI xs i = some x := by
  unfold atI
  rw [h]
  exact g
/-- what the item is: e, at the place k -/
abbrev IxD (ρ : DEnv) (o : DE) (i : Int) (Q : DE → Prop) : Prop :=
  match o with
  | .fz (.list ds) => ∃ e, atI ds i = some e ∧ Q (.fz e)
  | .fz (.tuple ds) => ∃ e, atI ds i = some e ∧ Q (.fz e)
  | .fz (.str z) => ∃ c, z.length ≤ sizeLine ∧ atI z.cps.toList i = some c ∧ Q (.fz (.str ⟨#[c]⟩))
  | .ow (.list ds) => ∃ e, atI ds i = some e ∧ Q (nrm e)
  | .ow (.tuple ds) => ∃ e, atI ds i = some e ∧ Q (nrm e)
  | .al j p => ∃ d k e, dat ρ (.al j p) = some d ∧ ixN (kids d).length i = some k ∧ (kids d)[k]? = some e ∧ ((lf e = true → Q (.fz e)) ∧ (lf e = false → Q (.al j (p ++ [k]))))
  | _ => False
section
variable {X : Cx} {ρ : DEnv} {a b c : Expr} {es rest : List Expr} {pos : Pos}
theorem atI_len {α β : Type} {xs : List α} {ys : List β} (h : xs.length = ys.length) {i : Int} {e : β} (g : atI ys i = some e) : ∃ j, ixN xs.length i = some j ∧ ys[j]? = some e := by
  obtain ⟨j, h1, h2⟩ := atI_ix g
  rw [h]
  exact ⟨j, h1, h2⟩
theorem rd_ix {Q : DE → Prop} (h : RD X a ρ fun o => RV X b ρ fun di => ∃ i, di = .int i ∧ IxD ρ o i Q) (hs : PlainIx b := by exact fun _ _ => rfl) : RD X (.Subscript a b pos) ρ Q := fun U σ H m E => by
  refine we_of (pe_ix ix_seq pe_w pe_w hs) (we_mono (h U σ H m E) fun x H1 ⟨e1, o, r1, h2⟩ => ?_)
  refine we_mono (h2 U σ H1 (m.mono e1) (envR_same E e1)) fun y H2 ⟨e2, d2, p2, i, ei, h3⟩ => ?_
  subst ei
  cases p2
  have e12 : Same H H2 := e1.trans e2
  have m2 := m.mono e12
  cases o with
  | un => exact h3.elim
  | vl v => exact h3.elim
  | sh v => exact h3.elim
  | ob _ => exact h3.elim
  | rt _ _ => exact h3.elim
  | im _ => exact h3.elim
  | io _ _ _ => exact h3.elim
  | fz d =>
    have r1' : Rp X.K (Hide H2 U) x d := dp_sub (hide_same e2 fun _ _ _ z => z) _ _ r1
    cases d with
    | list ds =>
      obtain ⟨e, he, q⟩ := h3
      cases r1' with
      | lst g1 g2 =>
        obtain ⟨j, hj, hje⟩ := atI_len (dps_len g2) he
        obtain ⟨w, hw, hp⟩ := dps_get g2 hje
        exact .inl ⟨_, _, _, w, rfl, rfl, Same.seq hide_sub g1, ix_atI hj hw, e12, .fz e, hp, q⟩
    | tuple ds =>
      obtain ⟨e, he, q⟩ := h3
      cases r1' with
      | tup g1 g2 =>
        obtain ⟨j, hj, hje⟩ := atI_len (dps_len g2) he
        obtain ⟨w, hw, hp⟩ := dps_get g2 hje
        exact .inr (.inl ⟨_, _, _, w, rfl, rfl, seqT hide_sub g1, ix_atI hj hw, e12, .fz e, hp, q⟩)
    | str z =>
      obtain ⟨c, hz, he, q⟩ := h3
      cases r1'
      exact .inr (.inr ⟨z, i, c, rfl, rfl, hz, he, e12, .fz (.str ⟨#[c]⟩), Rp.str _, q⟩)
    | _ => exact h3.elim
  | ow d =>
    obtain ⟨S, o1, n1, f1⟩ := r1
    have o2 := own_same e2 o1
    cases d with
    | list ds =>
      obtain ⟨e, he, q⟩ := h3
      obtain ⟨a', xs, T, rfl, g1, g2, rfl⟩ := own_list o2
      obtain ⟨j, hj, hje⟩ := atI_len (owns_len g2) he
      obtain ⟨w, hw, hp⟩ := dps_get (owns_dp _ _ _ g2) hje
      obtain ⟨S', o3, sl⟩ := owns_getS g2 hw hje
      have sl' : S'.Sublist (a' :: T) := sl.trans (List.sublist_cons_self _ _)
      exact .inl ⟨_, _, _, w, rfl, rfl, .inl (.inl g1), ix_atI hj hw, e12, nrm e, res_nrm m2 o3 (sl'.nodup n1) (fun z hz => f1 z (sl'.subset hz)), q⟩
    | tuple ds =>
      obtain ⟨e, he, q⟩ := h3
      cases o2 with
      | flt hd hl =>
        cases hd with
        | tup g1 g2 =>
          obtain ⟨j, hj, hje⟩ := atI_len (dps_len g2) he
          obtain ⟨w, hw, hp⟩ := dps_get g2 hje
          exact .inr (.inl ⟨_, _, _, w, rfl, rfl, g1, ix_atI hj hw, e12, nrm e, res_nrm (S := []) m2 (.flt hp (lfs_mem (by rw [lf] at hl; exact hl) hje)) .nil (fun z hz => by cases hz), q⟩)
      | tup g1 g2 =>
        obtain ⟨j, hj, hje⟩ := atI_len (owns_len g2) he
        obtain ⟨w, hw, hp⟩ := dps_get (owns_dp _ _ _ g2) hje
        obtain ⟨S', o3, sl⟩ := owns_getS g2 hw hje
        exact .inr (.inl ⟨_, _, _, w, rfl, rfl, .inl (.inl g1), ix_atI hj hw, e12, nrm e, res_nrm m2 o3 (sl.nodup n1) (fun z hz => f1 z (sl.subset hz)), q⟩)
    | _ => exact h3.elim
  | al j p =>
    obtain ⟨d, k, e, hd, hk, hke, q1, q2⟩ := h3
    obtain ⟨w0, d0, d', hr, hσ, hat⟩ := r1
    have hat2 := at_same e2 hat
    have ed : d' = d := by
      have z : (match ρ[j]? with
        | some (.ow d) => subAt d p
        | _ => none) = some d := hd
      rw [hr] at z
      have z' : subAt d0 p = some d := z
      rw [at_sub hat] at z'
      exact Option.some.inj z'
    subst ed
    obtain ⟨v', S, q1', q2', hS⟩ := (envR_same E e12).get j _ hr
    rw [hσ] at q1'
    cases q1'
    obtain ⟨S', o3, hSS⟩ := own_at hat2 q2'
    have close : ∀ {w : V}, Rp X.K H2 w e → (lf e = false → AtV H2 x d' [k] w e) → Same H H2 ∧ ∃ o, ResR X.K U ρ σ H H2 w o ∧ Q o := fun {w} hp ha => by
      refine ⟨e12, ?_⟩
      cases hl : lf e with
      | true => exact ⟨.fz e, dp_lf (hide_tups m2) _ _ hp hl, q1 hl⟩
      | false => exact ⟨.al j (p ++ [k]), ⟨w0, d0, e, hr, hσ, at_snoc hat2 (ha hl)⟩, q2 hl⟩
    cases d' with
    | list ds =>
      obtain ⟨a', xs, T, rfl, g1, g2, rfl⟩ := own_list o3
      have hlen := owns_len g2
      have hk' : ixN xs.length i = some k := by rw [hlen]; exact hk
      obtain ⟨w, hw, hp⟩ := dps_get (owns_dp _ _ _ g2) hke
      exact .inl ⟨_, _, _, w, rfl, rfl, .inl (.inl g1), ix_atI hk' hw, close hp fun _ => .lst g1 hw hke .nil⟩
    | tuple ds =>
      cases hlt : lf (PyData.tuple ds) with
      | true =>
        have dd := own_dp _ _ _ o3
        cases dd with
        | tup g1 g2 =>
          have hk' : ixN ds.length i = some k := hk
          rw [← dps_len g2] at hk'
          obtain ⟨w, hw, hp⟩ := dps_get g2 hke
          exact .inr (.inl ⟨_, _, _, w, rfl, rfl, g1, ix_atI hk' hw, close hp fun z => by rw [lfs_mem (by rw [lf] at hlt; exact hlt) hke] at z; cases z⟩)
      | false =>
        obtain ⟨a', xs, rfl, g1, g2⟩ := own_tuple o3 hlt
        have hk' : ixN xs.length i = some k := by rw [owns_len g2]; exact hk
        obtain ⟨w, hw, hp⟩ := dps_get (owns_dp _ _ _ g2) hke
        exact .inr (.inl ⟨_, _, _, w, rfl, rfl, .inl (.inl g1), ix_atI hk' hw, close hp fun _ => .tup hlt g1 hw hke .nil⟩)
    | _ => exact absurd hke (by simp [kids])

/-! ### arguments -/
theorem ra_nil {Q : List PyData → Prop} (q : Q []) : RA X [] ρ Q := fun U σ H m E => wa_of pa_nil ⟨Same.refl _, [], .nil, q⟩
theorem ra_cons {Q : List PyData → Prop} (h : RV X a ρ fun d => RA X es ρ fun ds => Q (d :: ds)) (hs : starEach (a :: es) X.env = (false, eval a X.env) :: starEach es X.env := by rfl) : RA X (a :: es) ρ Q := fun U σ H m E => by
  refine wa_of (pa_cons pe_w pa_w hs) (we_mono (h U σ H m E) fun x H1 ⟨e1, d, p, h2⟩ => ?_)
  exact wa_mono (h2 U σ H1 (m.mono e1) (envR_same E e1)) fun vs H2 ⟨e2, ds, ps, q⟩ => ⟨e1.trans e2, d :: ds, .cons (dp_sub e2 _ _ p) ps, q⟩
/-- items that are owned, or hold no list -/
def RO (X : Cx) (es : List Expr) (ρ : DEnv) (Q : List PyData → Prop) : Prop :=
  ∀ (U : Addr → Prop) (σ : L2.St) (H : Hp), MutU U H → EnvR X.K U ρ σ H → WA X es σ H fun vs H' => Same H H' ∧ ∃ ds S, OwnAll X.K H' vs ds S ∧ S.Nodup ∧ (∀ a ∈ S, H a = none) ∧ Q ds
def owd (ρ : DEnv) (o : DE) (d : PyData) : Prop := match o with
  | .ow e => e = d
  | .fz e => e = d ∧ lf d = true
  | .al j p => dat ρ (.al j p) = some d ∧ lf d = true
  | _ => False
theorem owd_own {K : PySem.W.Frag} {U : Addr → Prop} {σ : L2.St} {H H' : Hp} {v : V} {o : DE} {d : PyData} (E : EnvR K U ρ σ H) (s : Same H H') (r : ResR K U ρ σ H H' v o) (h : owd ρ o d) : ∃ S, OwnR K H' v d S ∧ S.Nodup ∧ ∀ a ∈ S, H a = none := by
  cases o with
  | un => exact h.elim
  | vl v => exact h.elim
  | sh v => exact h.elim
  | ob _ => exact h.elim
  | rt _ _ => exact h.elim
  | im _ => exact h.elim
  | io _ _ _ => exact h.elim
  | ow e => cases h; exact r
  | fz e => obtain ⟨h1, h2⟩ := h; subst h1; exact ⟨[], .flt (dp_sub hide_sub _ _ r) h2, .nil, fun a m => by cases m⟩
  | al j p => exact ⟨[], .flt (res_dp E s r h.1) h.2, .nil, fun a m => by cases m⟩
theorem ro_nil {Q : List PyData → Prop} (q : Q []) : RO X [] ρ Q := fun U σ H m E => wa_of pa_nil ⟨Same.refl _, [], [], .nil, .nil, (fun a z => by cases z), q⟩
theorem ro_cons {Q : List PyData → Prop} (h : RD X a ρ fun o => ∃ d, owd ρ o d ∧ RO X es ρ fun ds => Q (d :: ds)) (hs : starEach (a :: es) X.env = (false, eval a X.env) :: starEach es X.env := by rfl) : RO X (a :: es) ρ Q := fun U σ H m E => by
  refine wa_of (pa_cons pe_w pa_w hs) (we_mono (h U σ H m E) fun x H1 ⟨e1, o, r, d, hd, h2⟩ => ?_)
  obtain ⟨S, o1, n1, f1⟩ := owd_own E e1 r hd
  refine wa_mono (h2 U σ H1 (m.mono e1) (envR_same E e1)) fun vs H2 ⟨e2, ds, T, ps, n2, f2, q⟩ => ⟨e1.trans e2, d :: ds, S ++ T, .cons (own_same e2 o1) ps, ?_, ?_, q⟩
  · rw [List.nodup_append]
    refine ⟨n1, n2, fun x hx y hy z => ?_⟩
    subst z
    obtain ⟨xs, hxs⟩ := own_mem _ _ _ o1 x hx
    rw [f2 x hy] at hxs
    cases hxs
  · intro x hx
    rcases List.mem_append.mp hx with hx | hx
    · exact f1 x hx
    · exact e1.free (f2 x hx)
theorem rd_list {Q : DE → Prop} (h : RO X es ρ fun ds => ds.length ≤ sizeLine ∧ Q (.ow (.list ds))) : RD X (.List es pos) ρ Q := fun U σ H m E => by
  refine we_of (pe_lst pa_w) (wa_mono (h U σ H m E) fun vs H1 ⟨e1, ds, S, o, n, f, hz, q⟩ => ⟨by rw [owns_len o]; exact hz, fun p hp => ⟨e1.trans (same_new hp), .ow (.list ds), ⟨p :: S, .lst upd_same (owns_same (same_new hp) o), ?_, ?_⟩, q⟩⟩)
  · refine List.nodup_cons.mpr ⟨fun z => ?_, n⟩
    obtain ⟨xs, hxs⟩ := owns_mem _ _ _ o p z
    rw [hp] at hxs
    cases hxs
  · intro x hx
    rcases List.mem_cons.mp hx with z | z
    · subst z
      exact e1.free hp
    · exact f x z
theorem rd_tuple {x1} {Q : DE → Prop} (h : RO X es ρ fun ds => ds.length ≤ sizeLine ∧ Q (nrm (.tuple ds))) : RD X (.Tuple es x1 pos) ρ Q := fun U σ H m E => by
  refine we_of (pe_tup pa_w) (wa_mono (h U σ H m E) fun vs H1 ⟨e1, ds, S, o, n, f, hz, q⟩ => ⟨by rw [owns_len o]; exact hz, fun p hp => ⟨e1.trans (same_new hp), nrm (.tuple ds), ?_, q⟩⟩)
  exact res_nrm (m.mono (e1.trans (same_new hp))) (.tup upd_same (owns_same (same_new hp) o)) n f
end
end DL
namespace DL
open PySem PySem.Spec PyProof.Rows L2

/-! ### frozen or fresh -/
def frd (ρ : DEnv) (o : DE) (d : PyData) : Prop := match o with
  | .ow e => e = d
  | .fz e => e = d
  | .al j p => dat ρ (.al j p) = some d ∧ lf d = true
  | _ => False
theorem own_hide {K : PySem.W.Frag} {H H' : Hp} {U : Addr → Prop} {v : V} {d : PyData} {S : List Addr} (m : MutU U H) (m' : MutU U H') (o : OwnR K H' v d S) (f : ∀ a ∈ S, H a = none) : OwnR K (Hide H' U) v d S := by
  refine own_mono (hide_tups m') (fun a xs e => hide_some.mpr ⟨fun z => ?_, e⟩) _ _ _ o fun a ha o e => hide_some.mpr ⟨fun z => ?_, e⟩
  · have q := m' a z
    rw [e] at q
    exact q
  · have q := m a z
    rw [f a ha] at q
    exact q
theorem frd_dp {K : PySem.W.Frag} {U : Addr → Prop} {ρ : DEnv} {σ : L2.St} {H H' : Hp} {v : V} {o : DE} {d : PyData} (m : MutU U H) (E : EnvR K U ρ σ H) (s : Same H H') (r : ResR K U ρ σ H H' v o) (h : frd ρ o d) : Rp K (Hide H' U) v d := by
  cases o with
  | un => exact h.elim
  | vl v => exact h.elim
  | sh v => exact h.elim
  | ob _ => exact h.elim
  | rt _ _ => exact h.elim
  | im _ => exact h.elim
  | io _ _ _ => exact h.elim
  | fz e => cases h; exact r
  | ow e =>
    cases h
    obtain ⟨S, a, b, c⟩ := r
    exact own_dp _ _ _ (own_hide m (m.mono s) a c)
  | al j p => exact dp_lf (hide_tups (m.mono s)) _ _ (res_dp E s r h.1) h.2
def RF (X : Cx) (e : Expr) (ρ : DEnv) (Q : PyData → Prop) : Prop :=
  ∀ (U : Addr → Prop) (σ : L2.St) (H : Hp), MutU U H → EnvR X.K U ρ σ H → WE X e σ H fun v H' => Same H H' ∧ ∃ d, Rp X.K (Hide H' U) v d ∧ Q d
def RFA (X : Cx) (es : List Expr) (ρ : DEnv) (Q : List PyData → Prop) : Prop :=
  ∀ (U : Addr → Prop) (σ : L2.St) (H : Hp), MutU U H → EnvR X.K U ρ σ H → WA X es σ H fun vs H' => Same H H' ∧ ∃ ds, RpAll X.K (Hide H' U) vs ds ∧ Q ds
section
variable {X : Cx} {ρ : DEnv} {a b c : Expr} {es rest : List Expr} {pos : Pos}
theorem rf_of {Q : PyData → Prop} (h : RD X a ρ fun o => ∃ d, frd ρ o d ∧ Q d) : RF X a ρ Q := fun U σ H m E =>
  we_mono (h U σ H m E) fun v H' ⟨s, o, r, d, hd, q⟩ => ⟨s, d, frd_dp m E s r hd, q⟩
theorem rfa_nil {Q : List PyData → Prop} (q : Q []) : RFA X [] ρ Q := fun U σ H m E => wa_of pa_nil ⟨Same.refl _, [], .nil, q⟩
theorem rfa_cons {Q : List PyData → Prop} (h : RF X a ρ fun d => RFA X es ρ fun ds => Q (d :: ds)) (hs : starEach (a :: es) X.env = (false, eval a X.env) :: starEach es X.env := by rfl) : RFA X (a :: es) ρ Q := fun U σ H m E => by
  refine wa_of (pa_cons pe_w pa_w hs) (we_mono (h U σ H m E) fun x H1 ⟨e1, d, p, h2⟩ => ?_)
  exact wa_mono (h2 U σ H1 (m.mono e1) (envR_same E e1)) fun vs H2 ⟨e2, ds, ps, q⟩ => ⟨e1.trans e2, d :: ds, .cons (dp_sub (hide_same e2 fun _ _ _ z => z) _ _ p) ps, q⟩
end
/-! ### what is walked -/
structure WalkD (K : PySem.W.Frag) (J : It) (St : Hp → Prop) (items : List PyData) : Prop where
  mono : ∀ {G G' : Hp}, Same G G' → St G → St G'
  go : ∀ {G H : Hp} {i : Nat}, St G → Same G H → i < items.length → J.go i H
  stop : ∀ {G H : Hp} {i : Nat}, St G → Same G H → items.length ≤ i → J.stop i H
  yld : ∀ {G H : Hp} {i : Nat} {x : V} {H' : Hp}, St G → Same G H → i < items.length → J.yld i H x H' → Same H H' ∧ ∃ d G', items[i]? = some d ∧ Same G G' ∧ Same G' H' ∧ (∀ a o, G' a = some o → G a = none → H a = none) ∧ Rp K G' x d
theorem walk_list {K : PySem.W.Frag} {a : Addr} {ds : List PyData} : WalkD K (Itl K a) (fun G => ∃ xs, SqL K G a xs ∧ RpAll K G xs ds) ds where
  mono := fun s ⟨xs, h, g⟩ => ⟨xs, Same.seq s h, dps_sub s _ _ g⟩
  go := fun {G H i} ⟨xs, h, g⟩ s hi => by
    obtain ⟨v, hv, _⟩ := dps_get g (List.getElem?_eq_getElem hi)
    exact ⟨xs, v, Same.seq s h, hv⟩
  stop := fun {G H i} ⟨xs, h, g⟩ s hi => ⟨xs, Same.seq s h, by rw [dps_len g]; exact hi⟩
  yld := fun {G H i x H'} ⟨xs, h, g⟩ s hi ⟨e, hy⟩ => by
    subst e
    obtain ⟨d, hd, hp⟩ := dps_getV g (hy xs (Same.seq s h))
    exact ⟨Same.refl _, d, G, hd, Same.refl _, s, (fun a o h1 h2 => by rw [h2] at h1; cases h1), hp⟩
theorem walk_tup {K : PySem.W.Frag} {a : Addr} {ds : List PyData} : WalkD K (Itt K a) (fun G => ∃ xs, SqT K G a xs ∧ RpAll K G xs ds) ds where
  mono := fun s ⟨xs, h, g⟩ => ⟨xs, seqT s h, dps_sub s _ _ g⟩
  go := fun {G H i} ⟨xs, h, g⟩ s hi => by
    obtain ⟨v, hv, _⟩ := dps_get g (List.getElem?_eq_getElem hi)
    exact ⟨xs, v, seqT s h, hv⟩
  stop := fun {G H i} ⟨xs, h, g⟩ s hi => ⟨xs, seqT s h, by rw [dps_len g]; exact hi⟩
  yld := fun {G H i x H'} ⟨xs, h, g⟩ s hi ⟨e, hy⟩ => by
    subst e
    obtain ⟨d, hd, hp⟩ := dps_getV g (hy xs (seqT s h))
    exact ⟨Same.refl _, d, G, hd, Same.refl _, s, (fun a o h1 h2 => by rw [h2] at h1; cases h1), hp⟩
def rngD (lo : Int) (n : Nat) : List PyData := (List.range n).map fun k => .int (lo + (k : Nat))
theorem rngD_len {lo : Int} {n : Nat} : (rngD lo n).length = n := by simp [rngD]
theorem walk_range {K : PySem.W.Frag} {lo : Int} {n : Nat} : WalkD K (Itr lo n) (fun _ => True) (rngD lo n) where
  mono := fun s _ => trivial
  go := fun _ _ hi => by rw [rngD_len] at hi; exact hi
  stop := fun _ _ hi => by rw [rngD_len] at hi; exact hi
  yld := fun {G H i x H'} _ s hi ⟨e, hy⟩ => by
    subst e hy
    rw [rngD_len] at hi
    exact ⟨Same.refl _, .int (lo + i), G, by simp [rngD, hi], Same.refl _, s, (fun a o h1 h2 => by rw [h2] at h1; cases h1), .int _⟩
def rngC (lo c : Int) (n : Nat) : List PyData := (List.range n).map fun k => .int (lo + (k : Nat) * c)
theorem rngC_len {lo c : Int} {n : Nat} : (rngC lo c n).length = n := by simp [rngC]
theorem walk_rangeC {K : PySem.W.Frag} {lo c : Int} {n : Nat} : WalkD K (Itc lo c n) (fun _ => True) (rngC lo c n) where
  mono := fun s _ => trivial
  go := fun _ _ hi => by rw [rngC_len] at hi; exact hi
  stop := fun _ _ hi => by rw [rngC_len] at hi; exact hi
  yld := fun {G H i x H'} _ s hi ⟨e, hy⟩ => by
    subst e hy
    rw [rngC_len] at hi
    exact ⟨Same.refl _, .int (lo + i * c), G, by simp [rngC, hi], Same.refl _, s, (fun a o h1 h2 => by rw [h2] at h1; cases h1), .int _⟩
def zipD (ds es : List PyData) : List PyData := (ds.zip es).map fun p => .tuple [p.1, p.2]
theorem new_pair {K : PySem.W.Frag} {G H : Hp} {T : Addr} {x y : V} {d e : PyData} (s : Same G H) (hT : H T = none) (p : Rp K G x d) (q : Rp K G y e) : Same H (upd H T (.tup [x, y])) ∧ Same G (upd G T (.tup [x, y])) ∧ Same (upd G T (.tup [x, y])) (upd H T (.tup [x, y])) ∧
    (∀ a o, upd G T (.tup [x, y]) a = some o → G a = none → H a = none) ∧ Rp K (upd G T (.tup [x, y])) (.ref T) (.tuple [d, e]) := by
  have gT : G T = none := s.free hT
  refine ⟨same_new hT, same_new gT, fun b o h => ?_, fun b o h n => ?_, .tup (.inl (.inl upd_same)) (.cons (dp_sub (same_new gT) _ _ p) (.cons (dp_sub (same_new gT) _ _ q) .nil))⟩
  · by_cases hb : b = T
    · subst hb
      rw [upd_same] at h ⊢
      exact h
    · rw [upd_ne hb] at h ⊢
      exact s _ _ h
  · by_cases hb : b = T
    · subst hb; exact hT
    · rw [upd_ne hb, n] at h
      cases h
theorem walk_zip {K : PySem.W.Frag} {a b : Addr} {ds es : List PyData} : WalkD K (Itz K a b) (fun G => ∃ xs ys, SqL K G a xs ∧ RpAll K G xs ds ∧ SqL K G b ys ∧ RpAll K G ys es) (zipD ds es) where
  mono := fun s ⟨xs, ys, h, g, h', g'⟩ => ⟨xs, ys, Same.seq s h, dps_sub s _ _ g, Same.seq s h', dps_sub s _ _ g'⟩
  go := fun {G H i} ⟨xs, ys, h, g, h', g'⟩ s hi => by
    have hi' : i < ds.length ∧ i < es.length := by simp [zipD] at hi; omega
    obtain ⟨v, hv, _⟩ := dps_get g (List.getElem?_eq_getElem hi'.1)
    obtain ⟨w, hw, _⟩ := dps_get g' (List.getElem?_eq_getElem hi'.2)
    exact ⟨xs, ys, v, w, Same.seq s h, Same.seq s h', hv, hw⟩
  stop := fun {G H i} ⟨xs, ys, h, g, h', g'⟩ s hi => ⟨xs, ys, Same.seq s h, Same.seq s h', by
    rw [dps_len g, dps_len g']
    simp [zipD] at hi
    omega⟩
  yld := fun {G H i x H'} ⟨xs, ys, h, g, h', g'⟩ s hi ⟨T, x1, y1, ev, hT, eH, hx, hy⟩ => by
    subst ev eH
    obtain ⟨d, hd, hp⟩ := dps_getV g (hx xs (Same.seq s h))
    obtain ⟨e, he, hq⟩ := dps_getV g' (hy ys (Same.seq s h'))
    obtain ⟨a1, a2, a3, a4, a5⟩ := new_pair s hT hp hq
    refine ⟨a1, .tuple [d, e], _, ?_, a2, a3, a4, a5⟩
    unfold zipD
    rw [List.getElem?_map, (List.getElem?_zip_eq_some (z := (d, e))).mpr ⟨hd, he⟩]
    rfl
def enumD (ds : List PyData) : List PyData := ds.mapIdx fun k d => .tuple [.int (k : Nat), d]
theorem walk_enum {K : PySem.W.Frag} {a : Addr} {ds : List PyData} : WalkD K (Ite K a) (fun G => ∃ xs, SqL K G a xs ∧ RpAll K G xs ds) (enumD ds) where
  mono := fun s ⟨xs, h, g⟩ => ⟨xs, Same.seq s h, dps_sub s _ _ g⟩
  go := fun {G H i} ⟨xs, h, g⟩ s hi => by
    have hi' : i < ds.length := by simpa [enumD] using hi
    obtain ⟨v, hv, _⟩ := dps_get g (List.getElem?_eq_getElem hi')
    exact ⟨xs, v, Same.seq s h, hv⟩
  stop := fun {G H i} ⟨xs, h, g⟩ s hi => ⟨xs, Same.seq s h, by rw [dps_len g]; simpa [enumD] using hi⟩
  yld := fun {G H i x H'} ⟨xs, h, g⟩ s hi ⟨T, x1, ev, hT, eH, hx⟩ => by
    subst ev eH
    obtain ⟨d, hd, hp⟩ := dps_getV g (hx xs (Same.seq s h))
    obtain ⟨a1, a2, a3, a4, a5⟩ := new_pair s hT (Rp.int (i : Nat)) hp
    refine ⟨a1, .tuple [.int (i : Nat), d], _, ?_, a2, a3, a4, a5⟩
    unfold enumD
    rw [List.getElem?_mapIdx, hd]
    rfl
def strD (x : Str) : List PyData := x.cps.toList.map fun c => .str ⟨#[c]⟩
theorem walk_str {K : PySem.W.Frag} {x : Str} : WalkD K (Its x) (fun _ => True) (strD x) where
  mono := fun s _ => trivial
  go := fun {G H i} _ _ hi => by
    have h : i < x.cps.size := by simpa [strD] using hi
    exact h
  stop := fun {G H i} _ _ hi => by
    have h : x.cps.size ≤ i := by simpa [strD] using hi
    exact h
  yld := fun {G H i v H'} _ s hi ⟨e, c, hc, hy⟩ => by
    subst e hy
    exact ⟨Same.refl _, .str ⟨#[c]⟩, G, by simp [strD, hc], Same.refl _, s, (fun a o h1 h2 => by rw [h2] at h1; cases h1), .str _⟩
/-- what a loop walks: items, frozen -/
def RI (X : Cx) (tg iter : Expr) (ρ : DEnv) (Q : List PyData → Prop) : Prop :=
  ∀ (U : Addr → Prop) (σ : L2.St) (H : Hp), MutU U H → EnvR X.K U ρ σ H → ∃ wi, PI X tg iter wi ∧ wi σ H fun J H1 => Same H H1 ∧ ∃ items St, St (Hide H1 U) ∧ WalkD X.K J St items ∧ Q items
section
variable {X : Cx} {ρ : DEnv} {tg a b c : Expr} {es rest : List Expr} {pos p : Pos}
theorem ri_list {Q : List PyData → Prop} (h : RF X a ρ fun d => ∃ ds, d = .list ds ∧ Q ds) : RI X tg a ρ Q := fun U σ H m E => by
  refine ⟨_, pi_list pe_w, we_mono (h U σ H m E) fun v H1 ⟨e1, d, p, ds, ed, q⟩ => ?_⟩
  subst ed
  cases p with
  | lst g1 g2 => exact ⟨_, rfl, ⟨_, Same.seq hide_sub g1⟩, e1, ds, _, ⟨_, g1, g2⟩, walk_list, q⟩
theorem ri_tup {Q : List PyData → Prop} (h : RF X a ρ fun d => ∃ ds, d = .tuple ds ∧ Q ds) : RI X tg a ρ Q := fun U σ H m E => by
  refine ⟨_, pi_tup pe_w, we_mono (h U σ H m E) fun v H1 ⟨e1, d, p, ds, ed, q⟩ => ?_⟩
  subst ed
  cases p with
  | tup g1 g2 => exact ⟨_, rfl, ⟨_, seqT hide_sub g1⟩, e1, ds, _, ⟨_, g1, g2⟩, walk_tup, q⟩
theorem ri_str {Q : List PyData → Prop} (h : RV X a ρ fun d => ∃ x, d = .str x ∧ Q (strD x)) : RI X tg a ρ Q := fun U σ H m E => by
  refine ⟨_, pi_str pe_w, we_mono (h U σ H m E) fun v H1 ⟨e1, d, p, x, ed, q⟩ => ?_⟩
  subst ed
  cases p
  exact ⟨x, rfl, e1, _, _, trivial, walk_str, q⟩
theorem ri_range1 {Q : List PyData → Prop} (hm : X.mg "range" = none) (h : RA X [a] ρ fun ds => ∃ j : Int, ds = [.int j] ∧ -(2 ^ 62) ≤ j ∧ j < 2 ^ 62 ∧ Q (rngD 0 j.toNat)) (hg : Gl X "range" := by rfl) (hs : starEach [a] X.env = [(false, eval a X.env)] := by rfl) : RI X tg (.Call (.Name "range" p) [a] [] pos) ρ Q := fun U σ H m E => by
  refine ⟨_, pi_range1 hg hm pa_w hs, wa_mono (h U σ H m E) fun vs H1 ⟨e1, ds, ps, j, ed, h1, h2, q⟩ => ?_⟩
  subst ed
  cases ps with
  | cons p1 p2 =>
    cases p1
    cases p2
    exact ⟨j, rfl, h1, h2, e1, _, _, trivial, walk_range, q⟩
theorem ri_range2 {Q : List PyData → Prop} (hm : X.mg "range" = none) (h : RA X [a, b] ρ fun ds => ∃ i j : Int, ds = [.int i, .int j] ∧ (-(2 ^ 62) ≤ i ∧ i < 2 ^ 62 ∧ -(2 ^ 62) ≤ j ∧ j < 2 ^ 62) ∧ Q (rngD i (j - i).toNat)) (hg : Gl X "range" := by rfl) (hs : starEach [a, b] X.env = [(false, eval a X.env), (false, eval b X.env)] := by rfl) (hs2 : starEach [b] X.env = [(false, eval b X.env)] := by rfl) :
    RI X tg (.Call (.Name "range" p) [a, b] [] pos) ρ Q := fun U σ H m E => by
  refine ⟨_, pi_range2 hg hm pa_w hs hs2, wa_mono (h U σ H m E) fun vs H1 ⟨e1, ds, ps, i, j, ed, h1, q⟩ => ?_⟩
  subst ed
  cases ps with
  | cons p1 p2 =>
    cases p1
    cases p2 with
    | cons p1 p2 =>
      cases p1
      cases p2
      exact ⟨i, j, rfl, h1, e1, _, _, trivial, walk_range, q⟩
theorem ri_range3 {Q : List PyData → Prop} (hm : X.mg "range" = none) (h : RA X [a, b, c] ρ fun ds => ∃ (i j k : Int) (n : Nat), ds = [.int i, .int j, .int k] ∧ RgC i j k n ∧ Q (rngC i k n)) (hg : Gl X "range" := by rfl)
    (hs : starEach [a, b, c] X.env = (false, eval a X.env) :: starEach [b, c] X.env := by rfl) (hpl : (backTo pos (starEach [b, c] X.env)).any (·.1) = false := by rfl) : RI X tg (.Call (.Name "range" p) [a, b, c] [] pos) ρ Q := fun U σ H m E => by
  refine ⟨_, pi_range3 hg hm pa_w hs hpl, wa_mono (h U σ H m E) fun vs H1 ⟨e1, ds, ps, i, j, k, n, ed, h1, q⟩ => ?_⟩
  subst ed
  cases ps with
  | cons p1 p2 =>
    cases p1
    cases p2 with
    | cons p1 p2 =>
      cases p1
      cases p2 with
      | cons p1 p2 =>
        cases p1
        cases p2
        exact ⟨i, j, k, n, rfl, h1, e1, _, _, trivial, walk_rangeC, q⟩
variable {elts : List Expr} {kk : Nat} {tpos : Pos}
theorem ri_zip {Q : List PyData → Prop} (hm : X.mg "zip" = none) (h : RFA X [a, b] ρ fun ds => ∃ xs ys, ds = [.list xs, .list ys] ∧ Q (zipD xs ys)) (hg : Gl X "zip" := by rfl)
    (hs : starEach [a, b] X.env = (false, eval a X.env) :: starEach [b] X.env := by rfl) (hpl : (backTo pos (starEach [b] X.env)).any (·.1) = false := by rfl) : RI X (.Tuple elts kk tpos) (.Call (.Name "zip" p) [a, b] [] pos) ρ Q := fun U σ H m E => by
  refine ⟨_, pi_zip hg hm pa_w hs hpl, wa_mono (h U σ H m E) fun vs H1 ⟨e1, ds, ps, xs, ys, ed, q⟩ => ?_⟩
  subst ed
  cases ps with
  | cons p1 p2 =>
    cases p1 with
    | lst g1 g2 =>
      cases p2 with
      | cons p1 p2 =>
        cases p1 with
        | lst g3 g4 =>
          cases p2
          exact ⟨_, _, _, _, rfl, Same.seq hide_sub g1, Same.seq hide_sub g3, e1, _, _, ⟨_, _, g1, g2, g3, g4⟩, walk_zip, q⟩
theorem ri_enum {Q : List PyData → Prop} (hm : X.mg "enumerate" = none) (h : RFA X [a] ρ fun ds => ∃ xs, ds = [.list xs] ∧ Q (enumD xs)) (hg : Gl X "enumerate" := by rfl)
    (hs : starEach [a] X.env = [(false, eval a X.env)] := by rfl) : RI X (.Tuple elts kk tpos) (.Call (.Name "enumerate" p) [a] [] pos) ρ Q := fun U σ H m E => by
  refine ⟨_, pi_enum hg hm pa_w hs, wa_mono (h U σ H m E) fun vs H1 ⟨e1, ds, ps, xs, ed, q⟩ => ?_⟩
  subst ed
  cases ps with
  | cons p1 p2 =>
    cases p1 with
    | lst g1 g2 =>
      cases p2
      exact ⟨_, _, rfl, Same.seq hide_sub g1, e1, _, _, ⟨_, g1, g2⟩, walk_enum, q⟩
end
end DL
namespace DL
open PySem PySem.Spec PyProof.Rows L2

/-! ### a def's promise, on data -/
def spD (K : PySem.W.Frag) (P : List PyData → PyData → Prop) : Sp := fun vs H Q _ => ∃ ds d, RpAll K H vs ds ∧ P ds d ∧ ∀ v H' S, Same H H' → OwnR K H' v d S → S.Nodup → (∀ a ∈ S, H a = none) → Q v H'
/-- a def that may be called by its name x; dds: the data of the arguments left out -/
structure CallD (X : Cx) (x : Str) (P : List PyData → PyData → Prop) (dds : List PyData := []) : Prop where
  ex : ∃ (CX : CXT) (k : Nat) (f : Addr) (fd : FuncData) (ps : List Str) (ds : List Value) (dvs : List V), FnOk X.prog X.w X.K X.mg X.base CX k f fd ps (spD X.K P) ∧ Room k X.A ∧ X.mg x = some (.ref f) ∧ PySem.W.keepIn X.K (.ref f) = true ∧
    Binds X.K fd ps ds ∧ Vals dvs ds ∧ (∀ H, RpAll X.K H dvs dds) ∧ ∀ (Y : Cx), Y.prog = X.prog → Y.w = X.w → Passes CX Y E0
section
variable {X : Cx} {ρ : DEnv} {a b c : Expr} {es rest : List Expr} {pos p : Pos} {x : Str}
theorem rd_call {P : List PyData → PyData → Prop} {dds : List PyData} {Q : DE → Prop} (C : CallD X x P dds) (h : RA X (a :: es) ρ fun ds => ∃ d, P (ds ++ dds) d ∧ Q (nrm d)) (hg : Gl X x := by rfl)
    (hdb : (x == ("__debug__" : Str)) = false := by decide) (he : starEach (a :: es) X.env = (false, eval a X.env) :: starEach es X.env := by rfl) (hpl : (backTo pos (starEach es X.env)).any (·.1) = false := by rfl) : RD X (.Call (.Name x p) (a :: es) [] pos) ρ Q := fun U σ H m E => by
  obtain ⟨CX, k, f, fd, ps, ds0, dvs, F, hr, hm, hk, hb, hd, hdd, hx⟩ := C.ex
  refine we_of (pe_call F hr hg hm hk hb hd (hx X rfl rfl) pa_w hdb he hpl) (wa_mono (h U σ H m E) fun vs H1 ⟨e1, ds, pp, d, hp, q⟩ => ?_)
  refine ⟨ds ++ dds, d, dps_app pp (hdd _), hp, fun v H' S s o n f => ⟨e1.trans s, nrm d, ?_, q⟩⟩
  exact res_nrm (m.mono (e1.trans s)) o n fun a h => e1.free (f a h)
/-! ### built-ins by their names -/
theorem rd_callB {id : String} {r : List V → Hp → VK → Prop} {Q : DE → Prop} (hc : CallR X (.builtin id) r) (hm : X.mg x = none) (hv : bootBuiltins x = some (.builtin id))
    (h : RA X (a :: es) ρ fun ds => ∀ (U : Addr → Prop) (σ : L2.St) (H H1 : Hp) (vs : List V), MutU U H → Same H H1 → EnvR X.K U ρ σ H1 → RpAll X.K H1 vs ds → r vs H1 fun v H' => Same H H' ∧ ∃ o, ResR X.K U ρ σ H H' v o ∧ Q o)
    (hg : Gl X x := by rfl) (hn : x ≠ "__name__" := by decide) (hdb : (x == ("__debug__" : Str)) = false := by decide) (he : starEach (a :: es) X.env = (false, eval a X.env) :: starEach es X.env := by rfl) (hpl : (backTo pos (starEach es X.env)).any (·.1) = false := by rfl) : RD X (.Call (.Name x p) (a :: es) [] pos) ρ Q := fun U σ H m E =>
  we_of (pe_callB hc hg hm hv pa_w hn hdb he hpl) (wa_mono (h U σ H m E) fun vs H1 ⟨e1, ds, pp, q⟩ => q U σ H H1 vs m e1 (envR_same E e1) pp)
theorem rd_callTy {T : String} {r : List V → Hp → VK → Prop} {Q : DE → Prop} (hc : CallR X (.type T) r) (hm : X.mg x = none) (hv : bootBuiltins x = some (.type T))
    (h : RA X (a :: es) ρ fun ds => ∀ (U : Addr → Prop) (σ : L2.St) (H H1 : Hp) (vs : List V), MutU U H → Same H H1 → EnvR X.K U ρ σ H1 → RpAll X.K H1 vs ds → r vs H1 fun v H' => Same H H' ∧ ∃ o, ResR X.K U ρ σ H H' v o ∧ Q o)
    (hg : Gl X x := by rfl) (hn : x ≠ "__name__" := by decide) (hdb : (x == ("__debug__" : Str)) = false := by decide) (he : starEach (a :: es) X.env = (false, eval a X.env) :: starEach es X.env := by rfl) (hpl : (backTo pos (starEach es X.env)).any (·.1) = false := by rfl) : RD X (.Call (.Name x p) (a :: es) [] pos) ρ Q := fun U σ H m E =>
  we_of (pe_callTy hc hg hm hv pa_w hn hdb he hpl) (wa_mono (h U σ H m E) fun vs H1 ⟨e1, ds, pp, q⟩ => q U σ H H1 vs m e1 (envR_same E e1) pp)
theorem rps1 {K : PySem.W.Frag} {H : Hp} {vs : List V} {d : PyData} (h : RpAll K H vs [d]) : ∃ v, vs = [v] ∧ Rp K H v d := by
  cases h with
  | cons h1 h2 => cases h2; exact ⟨_, rfl, h1⟩
theorem rps2 {K : PySem.W.Frag} {H : Hp} {vs : List V} {d e : PyData} (h : RpAll K H vs [d, e]) : ∃ v w, vs = [v, w] ∧ Rp K H v d ∧ Rp K H w e := by
  cases h with
  | cons h1 h2 => obtain ⟨w, rfl, h3⟩ := rps1 h2; exact ⟨_, _, rfl, h1, h3⟩
variable {Y : Cx}
def lenD : PyData → Option (Prop × Int)
  | .list ds => some (True, ds.length)
  | .tuple ds => some (True, ds.length)
  | .str z => some (z.length ≤ sizeLine, z.length)
  | _ => none
theorem rd_len {Q : DE → Prop} (hm : X.mg "len" = none) (h : RV X a ρ fun d => ∃ k n, lenD d = some (k, n) ∧ k ∧ Q (.fz (.int n))) (hg : Gl X "len" := by rfl) (he : starEach [a] X.env = (false, eval a X.env) :: starEach [] X.env := by rfl) : RD X (.Call (.Name "len" p) [a] [] pos) ρ Q := fun U σ H m E =>
  we_of (pe_callB call_len hg hm PySem.boot_len (pa_cons pe_w pa_nil he) (by decide) (by decide) he rfl) (we_mono (h U σ H m E) fun v H1 ⟨e1, d, pp, k, n, ho, hk, q⟩ => by
    unfold lenD at ho
    split at ho <;> (try cases ho)
    · cases pp with
      | lst g1 g2 => exact ⟨_, _, rfl, .inl ⟨_, g1, (dps_len g2).symm⟩, e1, .fz (.int _), Rp.int _, q⟩
    · cases pp with
      | tup g1 g2 => exact ⟨_, _, rfl, .inr ⟨_, g1, (dps_len g2).symm⟩, e1, .fz (.int _), Rp.int _, q⟩
    · cases pp
      exact ⟨_, _, rfl, ⟨hk, rfl⟩, e1, .fz (.int _), Rp.int _, q⟩)
theorem rd_abs {Q : DE → Prop} (hm : X.mg "abs" = none) (h : RA X [a] ρ fun ds => ∃ i, ds = [.int i] ∧ Q (.fz (.int (if i < 0 then -i else i)))) (hg : Gl X "abs" := by rfl) (he : starEach [a] X.env = (false, eval a X.env) :: starEach [] X.env := by rfl) : RD X (.Call (.Name "abs" p) [a] [] pos) ρ Q := by
  refine rd_callB call_abs hm (by decide +kernel) ?_ hg (by decide) (by decide) he rfl
  intro U σ H m E
  refine wa_mono (h U σ H m E) fun vs H1 ⟨e1, ds, pp, i, ed, q⟩ => ⟨e1, ds, pp, fun U σ H H1 vs m e1 E pp => ?_⟩
  subst ed
  obtain ⟨v, rfl, h1⟩ := rps1 pp
  cases h1
  exact ⟨_, rfl, e1, .fz (.int _), Rp.int _, q⟩
theorem rd_divmod {Q : DE → Prop} (hm : X.mg "divmod" = none) (h : RA X [a, b] ρ fun ds => ∃ i j, ds = [.int i, .int j] ∧ CDivP i j ∧ Q (.fz (.tuple [.int (i / j), .int (i % j)]))) (hg : Gl X "divmod" := by rfl) (he : starEach [a, b] X.env = (false, eval a X.env) :: starEach [b] X.env := by rfl) (hpl : (backTo pos (starEach [b] X.env)).any (·.1) = false := by rfl) : RD X (.Call (.Name "divmod" p) [a, b] [] pos) ρ Q := by
  refine rd_callB call_divmodW hm (by decide +kernel) ?_ hg (by decide) (by decide) he hpl
  intro U σ H m E
  refine wa_mono (h U σ H m E) fun vs H1 ⟨e1, ds, pp, i, j, ed, hc, q⟩ => ⟨e1, ds, pp, fun U σ H H1 vs m e1 E pp => ?_⟩
  subst ed
  obtain ⟨v, w, rfl, h1, h2⟩ := rps2 pp
  cases h1
  cases h2
  refine ⟨_, _, rfl, hc, fun p hp => ⟨e1.trans (same_new hp), .fz (.tuple [.int (i / j), .int (i % j)]), ?_, q⟩⟩
  exact dp_lf (hide_tups (m.mono (e1.trans (same_new hp)))) _ _ (.tup (.inl (.inl upd_same)) (.cons (.int _) (.cons (.int _) .nil))) rfl
theorem rd_min2 {Q : DE → Prop} (hc : X.calm = true) (hm : X.mg "min" = none) (h : RA X [a, b] ρ fun ds => ∃ i j, ds = [.int i, .int j] ∧ Q (.fz (.int (min i j)))) (hg : Gl X "min" := by rfl) (he : starEach [a, b] X.env = (false, eval a X.env) :: starEach [b] X.env := by rfl) (hpl : (backTo pos (starEach [b] X.env)).any (·.1) = false := by rfl) : RD X (.Call (.Name "min" p) [a, b] [] pos) ρ Q := by
  refine rd_callB (call_min2 hc) hm (by decide +kernel) ?_ hg (by decide) (by decide) he hpl
  intro U σ H m E
  refine wa_mono (h U σ H m E) fun vs H1 ⟨e1, ds, pp, i, j, ed, q⟩ => ⟨e1, ds, pp, fun U σ H H1 vs m e1 E pp => ?_⟩
  subst ed
  obtain ⟨v, w, rfl, h1, h2⟩ := rps2 pp
  cases h1
  cases h2
  refine ⟨_, _, rfl, e1, .fz (.int (min i j)), ?_, q⟩
  rw [show (if j < i then j else i) = min i j by omega]
  exact Rp.int _
theorem rd_max2 {Q : DE → Prop} (hc : X.calm = true) (hm : X.mg "max" = none) (h : RA X [a, b] ρ fun ds => ∃ i j, ds = [.int i, .int j] ∧ Q (.fz (.int (max i j)))) (hg : Gl X "max" := by rfl) (he : starEach [a, b] X.env = (false, eval a X.env) :: starEach [b] X.env := by rfl) (hpl : (backTo pos (starEach [b] X.env)).any (·.1) = false := by rfl) : RD X (.Call (.Name "max" p) [a, b] [] pos) ρ Q := by
  refine rd_callB (call_max2 hc) hm (by decide +kernel) ?_ hg (by decide) (by decide) he hpl
  intro U σ H m E
  refine wa_mono (h U σ H m E) fun vs H1 ⟨e1, ds, pp, i, j, ed, q⟩ => ⟨e1, ds, pp, fun U σ H H1 vs m e1 E pp => ?_⟩
  subst ed
  obtain ⟨v, w, rfl, h1, h2⟩ := rps2 pp
  cases h1
  cases h2
  refine ⟨_, _, rfl, e1, .fz (.int (max i j)), ?_, q⟩
  rw [show (if j > i then j else i) = max i j by omega]
  exact Rp.int _
theorem rd_sum {Q : DE → Prop} (hc : X.calm = true) (hm : X.mg "sum" = none) (h : RA X [a] ρ fun ds => ∃ ns : List Int, ds = [.list (ns.map .int)] ∧ Q (.fz (.int ns.sum))) (hg : Gl X "sum" := by rfl) (he : starEach [a] X.env = (false, eval a X.env) :: starEach [] X.env := by rfl) : RD X (.Call (.Name "sum" p) [a] [] pos) ρ Q := by
  refine rd_callB (cr_sum hc) hm (by decide +kernel) ?_ hg (by decide) (by decide) he rfl
  intro U σ H m E
  refine wa_mono (h U σ H m E) fun vs H1 ⟨e1, ds, pp, ns, ed, q⟩ => ⟨e1, ds, pp, fun U σ H H1 vs m e1 E pp => ?_⟩
  subst ed
  obtain ⟨v, rfl, h1⟩ := rps1 pp
  cases h1 with
  | lst g1 g2 =>
    rw [dps_intsV g2] at g1
    exact ⟨_, _, rfl, g1, e1, .fz (.int _), Rp.int _, q⟩
theorem rd_minL {Q : DE → Prop} (hc : X.calm = true) (hm : X.mg "min" = none) (h : RA X [a] ρ fun ds => ∃ ns : List Int, ds = [.list (ns.map .int)] ∧ 0 < ns.length ∧ ∀ m, m ∈ ns → (∀ y, y ∈ ns → m ≤ y) → Q (.fz (.int m))) (hg : Gl X "min" := by rfl) (he : starEach [a] X.env = (false, eval a X.env) :: starEach [] X.env := by rfl) : RD X (.Call (.Name "min" p) [a] [] pos) ρ Q := by
  refine rd_callB (cr_min hc) hm (by decide +kernel) ?_ hg (by decide) (by decide) he rfl
  intro U σ H m E
  refine wa_mono (h U σ H m E) fun vs H1 ⟨e1, ds, pp, ns, ed, hl, q⟩ => ⟨e1, ds, pp, fun U σ H H1 vs m e1 E pp => ?_⟩
  subst ed
  obtain ⟨v, rfl, h1⟩ := rps1 pp
  cases h1 with
  | lst g1 g2 =>
    rw [dps_intsV g2] at g1
    exact ⟨_, _, rfl, g1, hl, fun m h1 h2 => ⟨e1, .fz (.int m), Rp.int _, q m h1 h2⟩⟩
theorem rd_sorted {Q : DE → Prop} (hm : X.mg "sorted" = none) (h : RA X [a] ρ fun ds => ∃ ns : List Int, ds = [.list (ns.map .int)] ∧ ns.length < 64 ∧ ∀ ns' : List Int, ns'.Perm ns → ns'.Pairwise (· ≤ ·) → Q (.ow (.list (ns'.map .int)))) (hg : Gl X "sorted" := by rfl) (he : starEach [a] X.env = (false, eval a X.env) :: starEach [] X.env := by rfl) : RD X (.Call (.Name "sorted" p) [a] [] pos) ρ Q := by
  refine rd_callB cr_sorted hm (by decide +kernel) ?_ hg (by decide) (by decide) he rfl
  intro U σ H m E
  refine wa_mono (h U σ H m E) fun vs H1 ⟨e1, ds, pp, ns, ed, hl, q⟩ => ⟨e1, ds, pp, fun U σ H H1 vs m e1 E pp => ?_⟩
  subst ed
  obtain ⟨v, rfl, h1⟩ := rps1 pp
  cases h1 with
  | lst g1 g2 =>
    rw [dps_intsV g2] at g1
    have lfi : ∀ l : List Int, lfs (l.map PyData.int) = true := fun l => by induction l with
      | nil => rfl
      | cons x l ih => rw [List.map_cons, lfs, ih]; rfl
    refine ⟨_, _, rfl, g1, hl, fun ns' p h1 h2 h3 => ⟨e1.trans (same_new h3), .ow (.list (ns'.map .int)), ?_, q ns' h1 h2⟩⟩
    obtain ⟨S, s1, s2, s3⟩ := ow_new (K := X.K) h3 (dps_ints ns') (lfi ns')
    exact ⟨S, s1, s2, fun a z => e1.free (s3 a z)⟩
/-- all([..]), any([..]) of bools -/
theorem dps_blsV {K : PySem.W.Frag} {H : Hp} : ∀ {ns : List Bool} {vs : List V}, RpAll K H vs (ns.map PyData.bool) → vs = ns.map V.bl
  | [], _, h => by cases h; rfl
  | n :: ns, _, h => by
    cases h with
    | cons h1 h2 =>
      cases h1
      rw [dps_blsV h2]
      rfl
theorem rd_all {Q : DE → Prop} (hc : X.calm = true) (hm : X.mg "all" = none) (h : RA X [a] ρ fun ds => ∃ ns : List Bool, ds = [.list (ns.map .bool)] ∧ Q (.fz (.bool (ns.all id)))) (hg : Gl X "all" := by rfl) (he : starEach [a] X.env = (false, eval a X.env) :: starEach [] X.env := by rfl) : RD X (.Call (.Name "all" p) [a] [] pos) ρ Q := by
  refine rd_callB (cr_all hc) hm (by decide +kernel) ?_ hg (by decide) (by decide) he rfl
  intro U σ H m E
  refine wa_mono (h U σ H m E) fun vs H1 ⟨e1, ds, pp, ns, ed, q⟩ => ⟨e1, ds, pp, fun U σ H H1 vs m e1 E pp => ?_⟩
  subst ed
  obtain ⟨v, rfl, h1⟩ := rps1 pp
  cases h1 with
  | lst g1 g2 =>
    rw [dps_blsV g2] at g1
    exact ⟨_, _, rfl, g1, e1, .fz (.bool _), Rp.bl _, q⟩
theorem rd_any {Q : DE → Prop} (hc : X.calm = true) (hm : X.mg "any" = none) (h : RA X [a] ρ fun ds => ∃ ns : List Bool, ds = [.list (ns.map .bool)] ∧ Q (.fz (.bool (ns.any id)))) (hg : Gl X "any" := by rfl) (he : starEach [a] X.env = (false, eval a X.env) :: starEach [] X.env := by rfl) : RD X (.Call (.Name "any" p) [a] [] pos) ρ Q := by
  refine rd_callB (cr_any hc) hm (by decide +kernel) ?_ hg (by decide) (by decide) he rfl
  intro U σ H m E
  refine wa_mono (h U σ H m E) fun vs H1 ⟨e1, ds, pp, ns, ed, q⟩ => ⟨e1, ds, pp, fun U σ H H1 vs m e1 E pp => ?_⟩
  subst ed
  obtain ⟨v, rfl, h1⟩ := rps1 pp
  cases h1 with
  | lst g1 g2 =>
    rw [dps_blsV g2] at g1
    exact ⟨_, _, rfl, g1, e1, .fz (.bool _), Rp.bl _, q⟩
/-- int(x): a bool, an int, a text -/
theorem rd_int1 {Q : DE → Prop} (hm : X.mg "int" = none) (h : RA X [a] ρ fun ds => (∃ i, ds = [.int i] ∧ Q (.fz (.int i))) ∨ (∃ k, ds = [.bool k] ∧ Q (.fz (.int (if k then 1 else 0))))) (hg : Gl X "int" := by rfl) (he : starEach [a] X.env = (false, eval a X.env) :: starEach [] X.env := by rfl) : RD X (.Call (.Name "int" p) [a] [] pos) ρ Q := by
  refine rd_callTy call_int1 hm (by decide +kernel) ?_ hg (by decide) (by decide) he rfl
  intro U σ H m E
  refine wa_mono (h U σ H m E) fun vs H1 ⟨e1, ds, pp, hq⟩ => ⟨e1, ds, pp, fun U σ H H1 vs m e1 E pp => ?_⟩
  rcases hq with ⟨i, ed, q⟩ | ⟨i, ed, q⟩
  · subst ed
    obtain ⟨v, rfl, h1⟩ := rps1 pp
    cases h1
    exact .inl ⟨_, rfl, e1, .fz (.int _), Rp.int _, q⟩
  · subst ed
    obtain ⟨v, rfl, h1⟩ := rps1 pp
    cases h1
    exact .inr ⟨_, rfl, e1, .fz (.int _), Rp.int _, q⟩
theorem rd_intS {Q : DE → Prop} (hm : X.mg "int" = none) (h : RA X [a] ρ fun ds => ∃ z n, ds = [.str z] ∧ PySem.intText? z = some n ∧ z.length ≤ 640 ∧ Q (.fz (.int n))) (hg : Gl X "int" := by rfl) (he : starEach [a] X.env = (false, eval a X.env) :: starEach [] X.env := by rfl) : RD X (.Call (.Name "int" p) [a] [] pos) ρ Q := by
  refine rd_callTy call_int_str hm (by decide +kernel) ?_ hg (by decide) (by decide) he rfl
  intro U σ H m E
  refine wa_mono (h U σ H m E) fun vs H1 ⟨e1, ds, pp, z, n, ed, h1, h2, q⟩ => ⟨e1, ds, pp, fun U σ H H1 vs m e1 E pp => ?_⟩
  subst ed
  obtain ⟨v, rfl, h3⟩ := rps1 pp
  cases h3
  exact ⟨_, _, rfl, h1, h2, e1, .fz (.int _), Rp.int _, q⟩
theorem rd_str1 {Q : DE → Prop} (hm : X.mg "str" = none) (h : RA X [a] ρ fun ds => ∃ i : Int, ds = [.int i] ∧ i.natAbs.log2 < 1920 ∧ Q (.fz (.str (toString i)))) (hg : Gl X "str" := by rfl) (he : starEach [a] X.env = (false, eval a X.env) :: starEach [] X.env := by rfl) : RD X (.Call (.Name "str" p) [a] [] pos) ρ Q := by
  refine rd_callTy call_str_int hm (by decide +kernel) ?_ hg (by decide) (by decide) he rfl
  intro U σ H m E
  refine wa_mono (h U σ H m E) fun vs H1 ⟨e1, ds, pp, i, ed, h1, q⟩ => ⟨e1, ds, pp, fun U σ H H1 vs m e1 E pp => ?_⟩
  subst ed
  obtain ⟨v, rfl, h3⟩ := rps1 pp
  cases h3
  exact ⟨_, rfl, h1, e1, .fz (.str _), Rp.str _, q⟩
/-- list(xs) of items that hold no list: a new list -/
theorem rd_listof {Q : DE → Prop} (hm : X.mg "list" = none) (h : RA X [a] ρ fun ds => ∃ es, (ds = [.list es] ∨ ds = [.tuple es]) ∧ lfs es = true ∧ Q (.ow (.list es))) (hg : Gl X "list" := by rfl) (he : starEach [a] X.env = (false, eval a X.env) :: starEach [] X.env := by rfl) : RD X (.Call (.Name "list" p) [a] [] pos) ρ Q := by
  refine rd_callTy call_list_of hm (by decide +kernel) ?_ hg (by decide) (by decide) he rfl
  intro U σ H m E
  refine wa_mono (h U σ H m E) fun vs H1 ⟨e1, ds, pp, es, hd, hl, q⟩ => ⟨e1, ds, pp, fun U σ H H1 vs m e1 E pp => ?_⟩
  have fin : ∀ {xs : List V} {l : Addr}, RpAll X.K H1 xs es → H1 l = none → Same H (upd H1 l (.lst xs)) ∧ ∃ o, ResR X.K U ρ σ H (upd H1 l (.lst xs)) (.ref l) o ∧ Q o := fun {xs l} g hn => by
    obtain ⟨S, s1, s2, s3⟩ := ow_new (K := X.K) hn g hl
    exact ⟨e1.trans (same_new hn), .ow (.list es), ⟨S, s1, s2, fun a z => e1.free (s3 a z)⟩, q⟩
  rcases hd with hd | hd
  · subst hd
    obtain ⟨v, rfl, h3⟩ := rps1 pp
    cases h3 with
    | lst g1 g2 => exact ⟨_, _, rfl, .inl g1, fun l hn => fin g2 hn⟩
  · subst hd
    obtain ⟨v, rfl, h3⟩ := rps1 pp
    cases h3 with
    | tup g1 g2 => exact ⟨_, _, rfl, .inr g1, fun l hn => fin g2 hn⟩
/-- tuple(xs) of a list of items that hold no list -/
theorem rd_tupleof {Q : DE → Prop} (hm : X.mg "tuple" = none) (h : RA X [a] ρ fun ds => ∃ es, ds = [.list es] ∧ lfs es = true ∧ Q (.fz (.tuple es))) (hg : Gl X "tuple" := by rfl) (he : starEach [a] X.env = (false, eval a X.env) :: starEach [] X.env := by rfl) : RD X (.Call (.Name "tuple" p) [a] [] pos) ρ Q := by
  refine rd_callTy call_tuple_of hm (by decide +kernel) ?_ hg (by decide) (by decide) he rfl
  intro U σ H m E
  refine wa_mono (h U σ H m E) fun vs H1 ⟨e1, ds, pp, es, hd, hl, q⟩ => ⟨e1, ds, pp, fun U σ H H1 vs m e1 E pp => ?_⟩
  subst hd
  obtain ⟨v, rfl, h3⟩ := rps1 pp
  cases h3 with
  | lst g1 g2 =>
    refine ⟨_, _, rfl, .inl ⟨g1, fun l hn => ⟨e1.trans (same_new hn), .fz (.tuple es), ?_, q⟩⟩⟩
    exact dp_lf (hide_tups (m.mono (e1.trans (same_new hn)))) _ _ (.tup (.inl (.inl upd_same)) (dps_sub (same_new hn) _ _ g2)) (by rw [lf]; exact hl)
/-! ### isinstance of data -/
def tyD : PyData → String
  | .none => "NoneType"
  | .bool _ => "bool"
  | .int _ => "int"
  | .str _ => "str"
  | .list _ => "list"
  | .tuple _ => "tuple"
  | .dict _ => "dict"
theorem tyD_ok {K : PySem.W.Frag} {H : Hp} {v : V} {d : PyData} (h : Rp K H v d) : TyX K H v (.type (tyD d)) := by
  cases h with
  | non => exact .base .non
  | bl b => exact .base (.bl b)
  | int i => exact .base (.int i)
  | str x => exact .base (.str x)
  | lst g1 g2 =>
    rcases g1 with (g | ⟨o, g⟩) | ⟨o, its, n, g, c, _⟩
    · exact .base (.lst g)
    · exact .base (.frz g)
    · exact .kList g c
  | tup g1 g2 =>
    rcases g1 with (g | ⟨o, g⟩) | ⟨o, its, n, g, c, _⟩
    · exact .base (.tup g)
    · exact .fTuple g
    · exact .kTuple g c
theorem rd_isinst {y : Str} {T : String} {py : Pos} {Q : DE → Prop} (hm : X.mg "isinstance" = none) (hmy : X.mg y = none) (hv : bootBuiltins y = some (.type T)) (h : RV X a ρ fun d => ∃ r, kitB (tyD d) T = some r ∧ Q (.fz (.bool r)))
    (hg : Gl X "isinstance" := by rfl) (hgy : Gl X y := by rfl) (hny : y ≠ "__name__" := by decide) (hdy : (y == ("__debug__" : Str)) = false := by decide)
    (he : starEach [a, .Name y py] X.env = (false, eval a X.env) :: starEach [.Name y py] X.env := by rfl) (he2 : starEach [.Name y py] X.env = (false, eval (.Name y py) X.env) :: starEach [] X.env := by rfl) (hpl : (backTo pos (starEach [.Name y py] X.env)).any (·.1) = false := by rfl) :
    RD X (.Call (.Name "isinstance" p) [a, .Name y py] [] pos) ρ Q := fun U σ H m E =>
  we_of (pe_callB call_isi hg hm (by decide +kernel) (pa_cons pe_w (pa_cons (pe_bltn (v := .ty T) hgy hmy hv rfl hny hdy) pa_nil he2) he) (by decide) (by decide) he hpl)
    (we_mono (h U σ H m E) fun v H1 ⟨e1, d, pp, r, hr, q⟩ => ⟨v, .ty T, .type (tyD d), .type T, r, rfl, .ty T, tyD_ok pp, kit_ty hr, e1, .fz (.bool r), Rp.bl _, q⟩)
end
end DL
namespace DL
open PySem PySem.Spec PyProof.Rows L2

/-! ### all frozen -/
def frz1 (ρ : DEnv) : DE → DE
  | .ow d => .fz d
  | .al j p => match dat ρ (.al j p) with
    | some d => .fz d
    | none => .un
  | e => e
def frzE (ρ : DEnv) : DEnv := ρ.map (frz1 ρ)
def wipeE (ρ : DEnv) : List Nat → DEnv
  | [] => ρ
  | i :: is => (wipeE ρ is).set i .un
theorem wipeE_len (ρ : DEnv) : ∀ is : List Nat, (wipeE ρ is).length = ρ.length
  | [] => rfl
  | i :: is => by unfold wipeE; rw [List.length_set, wipeE_len ρ is]
theorem wipeE_get {ρ : DEnv} {i : Nat} {e : DE} : ∀ {is : List Nat}, (wipeE ρ is)[i]? = some e → e = .un ∨ (ρ[i]? = some e ∧ i ∉ is)
  | [], h => .inr ⟨h, by simp⟩
  | j :: is, h => by
    unfold wipeE at h
    by_cases hj : j = i
    · subst hj
      by_cases hl : j < (wipeE ρ is).length
      · rw [List.getElem?_set_self hl] at h
        exact .inl (Option.some.inj h).symm
      · rw [List.getElem?_eq_none (by rw [List.length_set]; omega)] at h
        cases h
    · rw [List.getElem?_set_ne hj] at h
      rcases wipeE_get h with z | ⟨z, n⟩
      · exact .inl z
      · exact .inr ⟨z, by simp only [List.mem_cons, not_or]; exact ⟨fun q => hj q.symm, n⟩⟩
theorem envR_frz {K : PySem.W.Frag} {U U' : Addr → Prop} {ρ : DEnv} {σ : L2.St} {H H' : Hp} (E : EnvR K U ρ σ H) (s : Same H (Hide H' U')) : EnvR K U' (frzE ρ) σ H' := by
  refine ⟨by unfold frzE; rw [List.length_map]; exact E.len, fun i e he => ?_⟩
  unfold frzE at he
  rw [List.getElem?_map] at he
  cases hr : ρ[i]? with
  | none => rw [hr] at he; cases he
  | some o =>
    rw [hr] at he
    have he' : frz1 ρ o = e := Option.some.inj he
    have q := E.get i o hr
    subst he'
    cases o with
    | un => trivial
    | fz d =>
      obtain ⟨v, a, b⟩ := q
      exact ⟨v, a, dp_sub s _ _ (dp_sub hide_sub _ _ b)⟩
    | ow d =>
      obtain ⟨v, S, a, b, c⟩ := q
      exact ⟨v, a, dp_sub s _ _ (own_dp _ _ _ b)⟩
    | al j p =>
      obtain ⟨v, w, d, d', a, b, c, g⟩ := q
      have hd : dat ρ (.al j p) = some d' := by
        show (match ρ[j]? with
          | some (.ow d) => subAt d p
          | _ => none) = some d'
        rw [b]
        exact at_sub g
      show EntR K U' (frzE ρ) σ H' σ[i]? (match dat ρ (.al j p) with
        | some d => .fz d
        | none => .un)
      rw [hd]
      obtain ⟨w', S, a', b', c'⟩ := E.get j _ b
      rw [c] at a'
      cases a'
      obtain ⟨S', o', _⟩ := own_at g b'
      exact ⟨v, a, dp_sub s _ _ (own_dp _ _ _ o')⟩
    | vl v => exact q
    | sh v => trivial
    | ob u =>
      obtain ⟨a, b, c⟩ := q
      exact ⟨a, b, hide_sub _ _ (s _ _ c)⟩
    | rt _ _ => trivial
    | im f =>
      obtain ⟨a, b, c⟩ := q
      exact ⟨a, b, c.trans (Same.trans hide_sub s)⟩
    | io _ _ _ => trivial
theorem envR_wipe {K : PySem.W.Frag} {U : Addr → Prop} {ρ : DEnv} {σ : L2.St} {H : Hp} (E : EnvR K U ρ σ H) (is : List Nat) (na : ∀ (i j : Nat) (p : List Nat), ρ[i]? ≠ some (DE.al j p)) : EnvR K U (wipeE ρ is) (wipe σ is) H := by
  refine ⟨by rw [wipeE_len, wipe_length]; exact E.len, fun i e he => ?_⟩
  rcases wipeE_get he with z | ⟨z, n⟩
  · subst z; trivial
  · have q := E.get i e z
    rw [← wipe_out n] at q
    cases e with
    | al j p => exact absurd z (na i j p)
    | un => trivial
    | fz d => exact q
    | ow d => exact q
    | vl d => exact q
    | sh d => trivial
    | ob _ => exact q
    | rt _ _ => trivial
    | im _ => exact q
    | io _ _ _ => trivial
theorem frz_noal {ρ : DEnv} {i j : Nat} {p : List Nat} : (frzE ρ)[i]? ≠ some (DE.al j p) := fun h => by
  unfold frzE at h
  rw [List.getElem?_map] at h
  cases hr : ρ[i]? with
  | none => rw [hr] at h; cases h
  | some o =>
    rw [hr] at h
    have h' : frz1 ρ o = .al j p := Option.some.inj h
    cases o with
    | al j' p' =>
      have h2 : (match dat ρ (.al j' p') with
        | some d => DE.fz d
        | none => .un) = .al j p := h'
      cases hd : dat ρ (.al j' p') with
      | none => rw [hd] at h2; cases h2
      | some d => rw [hd] at h2; cases h2
    | _ => cases h'
/-! ### targets: a name, or a tuple of names -/
inductive Tgt where
  | one (i : Nat)
  | tup (is : List Nat)
def Tgt.all : Tgt → List Nat
  | .one i => [i]
  | .tup is => is
def tgs : List Nat → TGs
  | [] => gNil
  | i :: is => gCons (gName i) (tgs is)
def tgR (K : PySem.W.Frag) : Tgt → TG
  | .one i => gName i
  | .tup is => gTup K is.length (tgs is)
def setS (σ : L2.St) : List Nat → List V → L2.St
  | i :: is, v :: vs => setS (σ.set i (some v)) is vs
  | _, _ => σ
def setD (ρ : DEnv) : List Nat → List PyData → DEnv
  | i :: is, d :: ds => setD (ρ.set i (.fz d)) is ds
  | _, _ => ρ
theorem tgs_run : ∀ (is : List Nat) (vs : List V) (σ : L2.St) (H : Hp) (Q : L2.St → Hp → Prop), vs.length = is.length → Q (setS σ is vs) H → tgs is vs σ H Q
  | [], vs, σ, H, Q, hl, q => by
    cases vs with
    | nil => exact ⟨rfl, q⟩
    | cons v vs => cases hl
  | i :: is, vs, σ, H, Q, hl, q => by
    cases vs with
    | nil => cases hl
    | cons v vs => exact ⟨v, vs, rfl, tgs_run is vs _ H Q (Nat.succ.inj hl) q⟩
/-- the data that the target's names take -/
def Tgt.parts : Tgt → PyData → Option (List PyData)
  | .one _, d => some [d]
  | .tup is, .tuple ds => if ds.length = is.length then some ds else none
  | .tup _, _ => none
theorem tgR_run {K : PySem.W.Frag} {t : Tgt} {G H : Hp} {x : V} {d : PyData} {ds : List PyData} {σ : L2.St} {Q : L2.St → Hp → Prop} (s : Same G H) (p : Rp K G x d) (h : t.parts d = some ds) (q : ∀ vs, RpAll K G vs ds → vs.length = t.all.length → Q (setS σ t.all vs) H) : tgR K t x σ H Q := by
  cases t with
  | one i =>
    cases h
    exact q [x] (.cons p .nil) rfl
  | tup is =>
    cases d with
    | tuple es =>
      have h' : (if es.length = is.length then some es else none) = some ds := h
      by_cases hl : es.length = is.length
      · rw [if_pos hl] at h'
        cases h'
        cases p with
        | tup g1 g2 =>
          have hv := (dps_len g2).trans hl
          exact ⟨_, _, rfl, seqT s g1, hv, tgs_run is _ σ H Q hv (q _ g2 hv)⟩
      · rw [if_neg hl] at h'
        cases h'
    | _ => cases h
theorem setS_len : ∀ (is : List Nat) (vs : List V) (σ : L2.St), (setS σ is vs).length = σ.length
  | [], _, _ => rfl
  | _ :: _, [], _ => rfl
  | i :: is, v :: vs, σ => by
    show (setS (σ.set i (some v)) is vs).length = σ.length
    rw [setS_len is vs, List.length_set]
theorem setD_len : ∀ (is : List Nat) (vs : List PyData) (ρ : DEnv), (setD ρ is vs).length = ρ.length
  | [], _, _ => rfl
  | _ :: _, [], _ => rfl
  | i :: is, v :: vs, ρ => by
    show (setD (ρ.set i (.fz v)) is vs).length = ρ.length
    rw [setD_len is vs, List.length_set]
def noAl (ρ : DEnv) : Prop := ∀ (i j : Nat) (p : List Nat), ρ[i]? ≠ some (DE.al j p)
theorem noAl_set {ρ : DEnv} (n : noAl ρ) {i : Nat} {e : DE} (h : ∀ (j : Nat) (p : List Nat), e ≠ DE.al j p) : noAl (ρ.set i e) := fun k j p z => by
  by_cases hk : i = k
  · subst hk
    by_cases hl : i < ρ.length
    · rw [List.getElem?_set_self hl] at z
      exact h j p (Option.some.inj z)
    · rw [List.getElem?_eq_none (by rw [List.length_set]; omega)] at z
      cases z
  · rw [List.getElem?_set_ne hk] at z
    exact n k j p z
theorem noAl_wipe {ρ : DEnv} (n : noAl ρ) : ∀ is : List Nat, noAl (wipeE ρ is)
  | [] => n
  | i :: is => noAl_set (noAl_wipe n is) fun _ _ z => by cases z
theorem envR_set {K : PySem.W.Frag} {U : Addr → Prop} {ρ : DEnv} {σ : L2.St} {H : Hp} (E : EnvR K U ρ σ H) (n : noAl ρ) {i : Nat} {v : V} {d : PyData} (p : Rp K (Hide H U) v d) : EnvR K U (ρ.set i (.fz d)) (σ.set i (some v)) H := by
  refine ⟨by rw [List.length_set, List.length_set]; exact E.len, fun k e he => ?_⟩
  have hlen := E.len
  by_cases hk : i = k
  · subst hk
    by_cases hl : i < ρ.length
    · rw [List.getElem?_set_self hl] at he
      cases he
      exact ⟨v, by rw [List.getElem?_set_self (by omega)], p⟩
    · rw [List.getElem?_eq_none (by rw [List.length_set]; omega)] at he
      cases he
  · rw [List.getElem?_set_ne hk] at he ⊢
    have q := E.get k e he
    cases e with
    | al j p => exact absurd he (n k j p)
    | un => trivial
    | fz d => exact q
    | ow d => exact q
    | vl d => exact q
    | sh d => trivial
    | ob _ => exact q
    | rt _ _ => trivial
    | im _ => exact q
    | io _ _ _ => trivial
theorem envR_setS {K : PySem.W.Frag} {U : Addr → Prop} {H : Hp} : ∀ (is : List Nat) (vs : List V) (ds : List PyData) {ρ : DEnv} {σ : L2.St}, EnvR K U ρ σ H → noAl ρ → RpAll K (Hide H U) vs ds → EnvR K U (setD ρ is ds) (setS σ is vs) H
  | [], vs, ds, ρ, σ, E, n, p => by
    unfold setD setS; exact E
  | i :: is, _, _, ρ, σ, E, n, .nil => E
  | i :: is, _, _, ρ, σ, E, n, .cons p1 p2 => envR_setS is _ _ (envR_set E n p1) (noAl_set n fun _ _ z => by cases z) p2
theorem wipe_set {σ : L2.St} {i : Nat} {x : Option V} : ∀ {vs : List Nat}, i ∈ vs → wipe (σ.set i x) vs = wipe σ vs
  | [], h => by cases h
  | j :: vs, h => by
    unfold wipe
    by_cases hj : i = j
    · subst hj
      by_cases hm : i ∈ vs
      · rw [wipe_set hm]
      · apply List.ext_getElem?
        intro k
        by_cases hk : i = k
        · subst hk
          by_cases hl : i < σ.length
          · rw [List.getElem?_set_self (by rw [wipe_length, List.length_set]; exact hl), List.getElem?_set_self (by rw [wipe_length]; exact hl)]
          · rw [List.getElem?_eq_none (by rw [List.length_set, wipe_length, List.length_set]; omega), List.getElem?_eq_none (by rw [List.length_set, wipe_length]; omega)]
        · rw [List.getElem?_set_ne hk, List.getElem?_set_ne hk]
          by_cases hkv : k ∈ vs
          · by_cases hl : k < σ.length
            · have a1 : ∀ (τ : L2.St), k < τ.length → (wipe τ vs)[k]? = some none := fun τ hτ => by
                cases e : (wipe τ vs)[k]? with
                | none =>
                  rw [List.getElem?_eq_none_iff, wipe_length] at e
                  omega
                | some o =>
                  cases o with
                  | none => rfl
                  | some y => exact absurd hkv (wipe_some e).2
              rw [a1 _ (by rw [List.length_set]; exact hl), a1 _ hl]
            · rw [List.getElem?_eq_none (by rw [wipe_length, List.length_set]; omega), List.getElem?_eq_none (by rw [wipe_length]; omega)]
          · rw [wipe_out hkv, wipe_out hkv, List.getElem?_set_ne hk]
    · have hm : i ∈ vs := by
        rcases List.mem_cons.mp h with z | z
        · exact absurd z hj
        · exact z
      rw [wipe_set hm]
theorem wipe_setS {vs : List Nat} : ∀ (is : List Nat) (ws : List V) (σ : L2.St), (∀ i ∈ is, i ∈ vs) → wipe (setS σ is ws) vs = wipe σ vs
  | [], ws, σ, h => by unfold setS; rfl
  | i :: is, [], σ, h => rfl
  | i :: is, w :: ws, σ, h => by
    show wipe (setS (σ.set i (some w)) is ws) vs = wipe σ vs
    rw [wipe_setS is ws _ fun j m => h j (List.mem_cons_of_mem _ m), wipe_set (h i List.mem_cons_self)]
theorem wipe_wipe {vs : List Nat} {σ : L2.St} : ∀ (us : List Nat), (∀ i ∈ us, i ∈ vs) → wipe (wipe σ us) vs = wipe σ vs
  | [], _ => rfl
  | u :: us, h => by
    show wipe ((wipe σ us).set u none) vs = wipe σ vs
    rw [wipe_set (h u List.mem_cons_self), wipe_wipe us fun i m => h i (List.mem_cons_of_mem _ m)]
end DL
namespace DL
open PySem PySem.Spec PyProof.Rows L2

theorem owns_snoc {K : PySem.W.Frag} {H : Hp} {ds : List PyData} {vs : List V} {S T : List Addr} {v : V} {d : PyData} (h : OwnAll K H vs ds S) (g : OwnR K H v d T) : OwnAll K H (vs ++ [v]) (ds ++ [d]) (S ++ T) := by
  have q := owns_app h (OwnAll.cons g OwnAll.nil)
  rw [List.append_nil] at q
  exact q
section
variable {X : Cx} {ρ : DEnv} {tg iter elt c : Expr} {pos p : Pos} {scope : Scope} {own : List (Str × Nat)} {α : Type}
abbrev blkX (X : Cx) (scope : Scope) (s : Shared) (H : Hp) (C : Addr) (cl : List (Str × Addr)) (fp : List Addr) : Cx := X.blk s H scope (compEnvC scope cl C X.env) fp
/-- all blocks of the comprehension -/
def ForB (X : Cx) (scope : Scope) (P : Cx → Prop) : Prop := ∀ (s : Shared) (H : Hp) (C : Addr) (cl : List (Str × Addr)) (fp : List Addr), P (blkX X scope s H C cl fp)
theorem lc_ok {ifs : List Expr} {tt : TT} {R0 : TE} (t : Tgt) (xs : List α) (enc : α → PyData) (parts : α → List PyData) (keep : α → Bool) (g : α → PyData) (hz : xs.length ≤ sizeLine) (hin : ∀ i ∈ t.all, i ∈ own.map (·.2)) (tt_mono : ∀ {σ : L2.St} {H : Hp} {Q Q' : Bool → Hp → Prop}, tt σ H Q → (∀ b H', Q b H' → Q' b H') → tt σ H Q')
    (hi : RI X tg iter (frzE ρ) fun items => items = xs.map enc) (hp : ∀ a ∈ xs, t.parts (enc a) = some (parts a))
    (htst : ∀ a ∈ xs, ∀ (U : Addr → Prop) (σ : L2.St) (H : Hp), MutU U H → EnvR X.K U (setD (wipeE (frzE ρ) (own.map (·.2))) t.all (parts a)) σ H → tt σ H fun b H' => Same H H' ∧ b = keep a)
    (hb : ∀ a ∈ xs, keep a = true → ForB X scope fun Y => RD Y elt (setD (wipeE (frzE ρ) (own.map (·.2))) t.all (parts a)) fun o => owd (setD (wipeE (frzE ρ) (own.map (·.2))) t.all (parts a)) o (g a))
    (mk : ∀ {wi : TI} {te : TE}, PI X tg iter wi → (ForB X scope fun Y => PE Y elt te) → (∀ {σ : L2.St} {H : Hp} {Q : VK}, tLc wi (tgR X.K t) tt te (own.map (·.2)) σ H Q → R0 σ H Q))
    {U : Addr → Prop} {σ : L2.St} {H : Hp} {Q : VK} (m : MutU U H) (E : EnvR X.K U ρ σ H) (q : ∀ v H', Same H H' → ResR X.K U ρ σ H H' v (.ow (.list ((xs.filter keep).map g))) → Q v H') : R0 σ H Q := by
  have E0 : EnvR X.K (fun _ => False) (frzE ρ) σ H := envR_frz E fun b o e => hide_some.mpr ⟨fun z => z, e⟩
  obtain ⟨wi, hwi, h1⟩ := hi (fun _ => False) σ H (fun a z => z.elim) E0
  let te : TE := fun σ H' Q => ForB X scope fun Y => WE Y elt σ H' Q
  have pi' : PI X tg iter (fun σ' H' R => σ' = σ ∧ H' = H ∧ ∀ J H1, (Same H H1 ∧ ∃ items SP0, SP0 (Hide H1 fun _ => False) ∧ WalkD X.K J SP0 items ∧ items = xs.map enc) → R J H1) := by
    refine ⟨fun pins s σ' H' R I hh => ?_⟩
    obtain ⟨e1, e2, hR⟩ := hh
    subst e1 e2
    have z := hwi.run pins s _ _ _ I h1
    refine thn z fun v s1 z1 => thn z1 fun itv s2 ⟨it, fp, tn, J, H', a1, a2, a3, a4, a5, a6⟩ => ⟨it, fp, tn, J, H', a1, a2, a3, a4, a5, hR J H' a6⟩
  refine mk (te := te) pi' (fun s H C cl fp => ⟨fun pins s' σ H' Q I h => h s H C cl fp pins s' I⟩) ⟨rfl, rfl, fun J H1 ⟨e1, items, SP0, hSt, W, ei⟩ D hD => ?_⟩
  subst ei
  have hlen : (xs.map enc).length = xs.length := List.length_map _
  let UD : Addr → Prop := fun a => a = D
  have sD : Same H1 (Hide (upd H1 D (.lst [])) UD) := fun b o e => by
    have nb : b ≠ D := ne_of_none e hD
    exact hide_some.mpr ⟨nb, by rw [upd_ne nb]; exact e⟩
  let Pv : Nat → Hp → Prop := fun i H' => ∃ acc S, H' D = some (.lst acc) ∧ OwnAll X.K H' acc (((xs.take i).filter keep).map g) S ∧ S.Nodup ∧ (∀ a ∈ S, H1 a = none ∧ a ≠ D) ∧ Same H1 (Hide H' UD)
  refine ⟨fun i m H' => m = xs.length - i ∧ i ≤ xs.length ∧ Pv i H', ⟨xs.length, by simp, Nat.zero_le _, [], [], upd_same, .nil, .nil, (fun a z => by cases z), sD⟩, ?_⟩
  rintro i m' H2 ⟨rfl, hi', acc, S, hDa, hO, hn, hf, hs2⟩
  have mD : MutU UD H2 := fun a z => by
    have z' : a = D := z
    rw [z', hDa]
    trivial
  have sHide : Same (Hide H1 fun _ => False) (Hide H2 UD) := fun b o e => hs2 b o (hide_some.mp e).2
  have hSt2 := W.mono sHide hSt
  by_cases hlt : i < xs.length
  · have hx : xs[i]? = some xs[i] := List.getElem?_eq_getElem hlt
    have hmem : xs[i] ∈ xs := List.getElem_mem hlt
    have htk : xs.take (i + 1) = xs.take i ++ [xs[i]] := by rw [List.take_add_one, hx]; rfl
    refine .inr ⟨W.go hSt2 hide_sub (by rw [hlen]; exact hlt), fun H' => Pv (i + 1) H', fun H' p' => ⟨xs.length - (i + 1), by omega, rfl, hlt, p'⟩, fun x H3 hy => ?_⟩
    obtain ⟨s23, d, G', hd, sG, sG', hfr, hpx⟩ := W.yld hSt2 hide_sub (by rw [hlen]; exact hlt) hy
    rw [List.getElem?_map, hx] at hd
    have hd' : enc xs[i] = d := Option.some.inj hd
    subst hd'
    have hDa3 := s23 _ _ hDa
    have m3 : MutU UD H3 := mD.mono s23
    have sG3 : Same G' (Hide H3 UD) := fun b o e => by
      refine hide_some.mpr ⟨fun z => ?_, sG' b o e⟩
      have z' : b = D := z
      have h9 := hfr b o e (hide_none z)
      rw [z', hDa] at h9
      cases h9
    have hs3 : Same H1 (Hide H3 UD) := fun b o e => by
      obtain ⟨n1, n2⟩ := hide_some.mp (hs2 b o e)
      exact hide_some.mpr ⟨n1, s23 b o n2⟩
    refine tgR_run (G := G') sG' hpx (hp _ hmem) fun vs hvs hvl => ?_
    have e3 : EnvR X.K UD (setD (wipeE (frzE ρ) (own.map (·.2))) t.all (parts xs[i])) (setS (wipe σ (own.map (·.2))) t.all vs) H3 := by
      refine envR_setS _ _ _ (envR_wipe (envR_frz E fun b o e => hs3 b o (e1 b o e)) _ fun i j p => frz_noal) (noAl_wipe (fun i j p => frz_noal) _) (dps_sub sG3 _ _ hvs)
    refine ⟨by rw [wipe_setS _ _ _ hin, wipe_wipe _ fun _ z => z], ?_⟩
    have main : ∀ b H4, (Same H3 H4 ∧ b = keep xs[i]) → if b = true then te (setS (wipe σ (own.map (·.2))) t.all vs) H4 fun y H5 => ∃ acc, H5 D = some (.lst acc) ∧ acc.length < sizeLine ∧ Pv (i + 1) (upd H5 D (.lst (acc ++ [y]))) else Pv (i + 1) H4 := fun b H4 ⟨s34, eb⟩ => by
      have hDa4 := s34 _ _ hDa3
      have hs4 : Same H1 (Hide H4 UD) := fun b o e => by
        obtain ⟨n1, n2⟩ := hide_some.mp (hs3 b o e)
        exact hide_some.mpr ⟨n1, s34 b o n2⟩
      have hO4 := owns_same (s23.trans s34) hO
      subst eb
      cases hk : keep xs[i] with
      | true =>
        refine iteT ?_
        intro s0 H0 C cl fp
        refine we_mono (hb _ hmem hk s0 H0 C cl fp UD _ H4 (m3.mono s34) (envR_same e3 s34)) fun y H5 ⟨s45, o, r, ho⟩ => ?_
        obtain ⟨T, oT, nT, fT⟩ := owd_own (envR_same e3 s34) s45 r ho
        have hDa5 := s45 _ _ hDa4
        have hlacc : acc.length ≤ i := by
          rw [owns_len hO, List.length_map]
          exact Nat.le_trans (List.length_filter_le _ _) (by rw [List.length_take]; omega)
        refine ⟨acc, hDa5, by omega, ?_⟩
        have hTD : ∀ a ∈ T, a ≠ D := fun a z e => by
          subst e
          rw [fT _ z] at hDa4
          cases hDa4
        have up : ∀ a, a ≠ D → (upd H5 D (.lst (acc ++ [y]))) a = H5 a := fun a n => upd_ne n
        have ut : Tups H5 (upd H5 D (.lst (acc ++ [y]))) := upd_tups (by rw [hDa5]; trivial)
        have ut2 : ∀ a xs', H5 a = some (.tup xs') → (upd H5 D (.lst (acc ++ [y]))) a = some (.tup xs') := fun a xs' e => by
          have n : a ≠ D := fun z => by
            rw [z, hDa5] at e
            cases e
          rw [up a n]
          exact e
        have hOall := owns_mono ut ut2 _ _ _ (owns_snoc (owns_same s45 hO4) oT) fun a ha o e => by
          have n : a ≠ D := by
            rcases List.mem_append.mp ha with z | z
            · exact (hf a z).2
            · exact hTD a z
          rw [up a n]
          exact e
        have key : ((xs.take (i + 1)).filter keep).map g = ((xs.take i).filter keep).map g ++ [g xs[i]] := by
          rw [htk, List.filter_append, List.map_append]
          congr 1
          rw [List.filter_cons, if_pos hk]
          rfl
        refine ⟨acc ++ [y], S ++ T, upd_same, by rw [key]; exact hOall, ?_, ?_, ?_⟩
        · rw [List.nodup_append]
          refine ⟨hn, nT, fun a ha b hb z => ?_⟩
          subst z
          obtain ⟨ws, hws⟩ := owns_mem _ _ _ hO4 a ha
          rw [fT a hb] at hws
          cases hws
        · intro a ha
          rcases List.mem_append.mp ha with z | z
          · exact hf a z
          · refine ⟨?_, hTD a z⟩
            cases e : H1 a with
            | none => rfl
            | some o' =>
              have := (hide_some.mp (hs4 a o' e)).2
              rw [fT a z] at this
              cases this
        · intro b o e
          obtain ⟨n1, n2⟩ := hide_some.mp (hs4 b o e)
          refine hide_some.mpr ⟨n1, ?_⟩
          rw [up b n1]
          exact s45 b o n2
      | false =>
        refine iteF ⟨acc, S, hDa4, ?_, hn, hf, hs4⟩
        have key : ((xs.take (i + 1)).filter keep).map g = ((xs.take i).filter keep).map g := by
          rw [htk, List.filter_append, List.map_append, List.filter_cons, if_neg (by rw [hk]; exact Bool.false_ne_true)]
          simp
        rw [key]
        exact hO4
    have ht0 := htst _ hmem UD _ H3 m3 e3
    exact tt_mono ht0 main
  · have e : i = xs.length := by omega
    subst e
    refine .inl ⟨W.stop hSt2 hide_sub (by rw [hlen]; exact Nat.le_refl _), q _ _ ?_ ?_⟩
    · exact fun b o e => (hide_some.mp (hs2 b o (e1 b o e))).2
    · rw [List.take_length] at hO
      refine ⟨D :: S, .lst hDa hO, List.nodup_cons.mpr ⟨fun z => (hf D z).2 rfl, hn⟩, fun a z => ?_⟩
      rcases List.mem_cons.mp z with z | z
      · subst z
        exact e1.free hD
      · exact e1.free (hf a z).1
theorem rd_lc {Q : DE → Prop} (t : Tgt) (xs : List α) (enc : α → PyData) (parts : α → List PyData) (g : α → PyData) (hc : X.calm = true) (hN : X.N.Nodup) (ok : BlkOk X.N X.env.scope scope own) (hg : ForB X scope fun Y => PG Y tg (tgR X.K t))
    (hi : RI X tg iter (frzE ρ) fun items => items = xs.map enc) (hz : xs.length ≤ sizeLine) (hp : ∀ a ∈ xs, t.parts (enc a) = some (parts a))
    (hb : ∀ a ∈ xs, ForB X scope fun Y => RD Y elt (setD (wipeE (frzE ρ) (own.map (·.2))) t.all (parts a)) fun o => owd (setD (wipeE (frzE ρ) (own.map (·.2))) t.all (parts a)) o (g a))
    (q : Q (.ow (.list (xs.map g)))) (hin : ∀ i ∈ t.all, i ∈ own.map (·.2) := by decide) (hs : ∀ x, foldedSetIterable iter X.env x = pure x := by intro _; rfl) : RD X (.ListComp elt [⟨tg, iter, [], 0⟩] scope pos) ρ Q := fun U σ H m E =>
  lc_ok (ifs := []) (tt := tYes) (R0 := WE X _) t xs enc parts (fun _ => true) g hz hin (fun h k => k _ _ h) hi hp (fun a ha U σ H m E => ⟨Same.refl _, rfl⟩) (fun a ha _ => hb a ha)
    (fun {wi te} hi he {σ H Q} h => we_of (pe_lc hc hN hi ok hg (fun s H C cl fp => pts_nil) he hs) h) m E (fun v H' s r => ⟨s, _, by rw [List.filter_eq_self.mpr fun _ _ => rfl] at r; exact r, q⟩)
theorem rd_lcIf {Q : DE → Prop} (t : Tgt) (xs : List α) (enc : α → PyData) (parts : α → List PyData) (keep : α → Bool) (g : α → PyData) (hc : X.calm = true) (hN : X.N.Nodup) (ok : BlkOk X.N X.env.scope scope own) (hg : ForB X scope fun Y => PG Y tg (tgR X.K t))
    (hi : RI X tg iter (frzE ρ) fun items => items = xs.map enc) (hz : xs.length ≤ sizeLine) (hp : ∀ a ∈ xs, t.parts (enc a) = some (parts a))
    (ht : ∀ a ∈ xs, ForB X scope fun Y => RT Y c (setD (wipeE (frzE ρ) (own.map (·.2))) t.all (parts a)) fun b => b = keep a)
    (hb : ∀ a ∈ xs, keep a = true → ForB X scope fun Y => RD Y elt (setD (wipeE (frzE ρ) (own.map (·.2))) t.all (parts a)) fun o => owd (setD (wipeE (frzE ρ) (own.map (·.2))) t.all (parts a)) o (g a))
    (q : Q (.ow (.list ((xs.filter keep).map g)))) (hin : ∀ i ∈ t.all, i ∈ own.map (·.2) := by decide) (hs : ∀ x, foldedSetIterable iter X.env x = pure x := by intro _; rfl) : RD X (.ListComp elt [⟨tg, iter, [c], 0⟩] scope pos) ρ Q := fun U σ H m E =>
  lc_ok (ifs := [c]) (tt := fun σ H Q => ForB X scope fun Y => WT Y c σ H Q) (R0 := WE X _) t xs enc parts keep g hz hin (fun h k s H C cl fp => wt_mono (h s H C cl fp) k) hi hp (fun a ha U σ H m E s H0 C cl fp => ht a ha s H0 C cl fp U σ H m E) hb
    (fun {wi te} hi he {σ H Q} h => we_of (pe_lc hc hN hi ok hg (fun s H C cl fp => pts_one (t := fun σ H Q => ForB X scope fun Y => WT Y c σ H Q) ⟨fun pins s' σ H' Q I h => h s H C cl fp pins s' I⟩) he hs) h) m E (fun v H' s r => ⟨s, _, r, q⟩)
end
end DL
namespace DL
open PySem PySem.Spec PyProof.Rows L2

/-! ### the state between statements -/
def UF (W : Addr → Prop) (F : Nat → List Addr) : Addr → Prop := fun a => W a ∨ ∃ i, a ∈ F i
def Ent (K : PySem.W.Frag) (U : Addr → Prop) (ρ : DEnv) (σ : L2.St) (H : Hp) (o : Option (Option V)) (S : List Addr) : DE → Prop
  | .un => S = []
  | .fz d => S = [] ∧ ∃ v, o = some (some v) ∧ Rp K (Hide H U) v d
  | .ow d => ∃ v, o = some (some v) ∧ OwnR K H v d S
  | .al j p => S = [] ∧ ∃ v w d d', o = some (some v) ∧ ρ[j]? = some (.ow d) ∧ σ[j]? = some (some w) ∧ AtV H w d p v d'
  | .vl v => S = [] ∧ o = some (some v)
  | .sh ds => ∃ a vs, o = some (some (.ref a)) ∧ S = [a] ∧ H a = some (.lst vs) ∧ RpAll K (Hide H U) vs ds
  | .ob u => ∃ a, o = some (some (.ref a)) ∧ S = [a] ∧ H a = some u ∧ Mut (some u)
  | .rt j a => S = [] ∧ σ[j]? = some (some (.ref a))
  | .im f => S = [] ∧ ∃ g, f o = some g ∧ Same g (Hide H U)
  | .io _ _ _ => S = []
structure StF (K : PySem.W.Frag) (B : Hp) (W : Addr → Prop) (ρ : DEnv) (σ : L2.St) (H : Hp) (F : Nat → List Addr) : Prop where
  same : Same B H
  len : ρ.length ≤ σ.length
  nd : ∀ i, (F i).Nodup
  dj : ∀ i j a, a ∈ F i → a ∈ F j → i = j
  fresh : ∀ i a, a ∈ F i → B a = none
  ent : ∀ (i : Nat) (e : DE), ρ[i]? = some e → Ent K (UF W F) ρ σ H σ[i]? (F i) e
  out : ∀ i : Nat, ρ[i]? = none → F i = []
def StD (K : PySem.W.Frag) (B : Hp) (W : Addr → Prop) (ρ : DEnv) (σ : L2.St) (H : Hp) : Prop := ∃ F, StF K B W ρ σ H F
section
variable {K : PySem.W.Frag} {B : Hp} {W : Addr → Prop} {ρ : DEnv} {σ : L2.St} {H H' : Hp} {F : Nat → List Addr}
theorem StF.lstAt {i : Nat} {a : Addr} (s : StF K B W ρ σ H F) (h : a ∈ F i) : ∃ u, H a = some u ∧ Mut (some u) := by
  cases e : ρ[i]? with
  | none => rw [s.out i e] at h; cases h
  | some o =>
    have q := s.ent i o e
    cases o with
    | un => rw [show F i = [] from q] at h; cases h
    | fz d => rw [q.1] at h; cases h
    | ow d =>
      obtain ⟨v, _, o⟩ := q
      obtain ⟨xs, e⟩ := own_mem _ _ _ o a h
      exact ⟨_, e, trivial⟩
    | al j p => rw [q.1] at h; cases h
    | vl v => rw [q.1] at h; cases h
    | sh ds =>
      obtain ⟨b, vs, _, e2, e3, _⟩ := q
      rw [e2] at h
      rw [List.mem_singleton.mp h]
      exact ⟨_, e3, trivial⟩
    | ob u =>
      obtain ⟨b, _, e2, e3, e4⟩ := q
      rw [e2] at h
      rw [List.mem_singleton.mp h]
      exact ⟨_, e3, e4⟩
    | rt _ _ => rw [q.1] at h; cases h
    | im _ => rw [q.1] at h; cases h
    | io _ _ _ => rw [show F i = [] from q] at h; cases h
theorem StF.mut (s : StF K B W ρ σ H F) (hW : MutU W B) : MutU (UF W F) H := fun a h => by
  rcases h with h | ⟨i, h⟩
  · exact (hW.mono s.same) a h
  · obtain ⟨xs, e, m⟩ := s.lstAt h
    rw [e]
    exact m
theorem StF.env (s : StF K B W ρ σ H F) : EnvR K (UF W F) ρ σ H := by
  refine ⟨s.len, fun i e he => ?_⟩
  have q := s.ent i e he
  cases e with
  | un => trivial
  | fz d => exact q.2
  | ow d =>
    obtain ⟨v, a, b⟩ := q
    exact ⟨v, F i, a, b, fun x hx => .inr ⟨i, hx⟩⟩
  | al j p => exact q.2
  | vl v => exact q.2
  | sh ds => trivial
  | ob u =>
    obtain ⟨a, e1, _, e3, _⟩ := q
    exact ⟨a, e1, e3⟩
  | rt _ _ => trivial
  | im f => exact q.2
  | io _ _ _ => trivial
theorem StF.mono (s : StF K B W ρ σ H F) (h : Same H H') : StF K B W ρ σ H' F := by
  refine ⟨s.same.trans h, s.len, s.nd, s.dj, s.fresh, fun i e he => ?_, s.out⟩
  have q := s.ent i e he
  cases e with
  | un => exact q
  | fz d =>
    obtain ⟨a, v, b, c⟩ := q
    exact ⟨a, v, b, dp_sub (hide_same h fun _ _ _ z => z) _ _ c⟩
  | ow d =>
    obtain ⟨v, a, b⟩ := q
    exact ⟨v, a, own_same h b⟩
  | al j p =>
    obtain ⟨n, v, w, d, d', a, b, c, g⟩ := q
    exact ⟨n, v, w, d, d', a, b, c, at_same h g⟩
  | vl v => exact q
  | sh ds =>
    obtain ⟨a, vs, x1, x2, x3, x4⟩ := q
    exact ⟨a, vs, x1, x2, h _ _ x3, dps_sub (hide_same h fun _ _ _ z => z) _ _ x4⟩
  | ob u =>
    obtain ⟨a, x1, x2, x3, x4⟩ := q
    exact ⟨a, x1, x2, h _ _ x3, x4⟩
  | rt _ _ => exact q
  | im f =>
    obtain ⟨n, a, x1, x2⟩ := q
    exact ⟨n, a, x1, x2.trans (hide_same h (fun _ _ _ z => z))⟩
  | io _ _ _ => exact q
/-- a stronger base: all that is not owned here -/
noncomputable def baseOf (H : Hp) (F : Nat → List Addr) : Hp := Hide H fun a => ∃ i, a ∈ F i
theorem StF.rebase (s : StF K B W ρ σ H F) : StF K (baseOf H F) W ρ σ H F :=
  ⟨hide_sub, s.len, s.nd, s.dj, fun i a h => hide_none ⟨i, h⟩, s.ent, s.out⟩
theorem StF.base_sub (s : StF K B W ρ σ H F) : Same B (baseOf H F) := fun b o e => by
  refine hide_some.mpr ⟨fun ⟨i, h⟩ => ?_, s.same b o e⟩
  rw [s.fresh i b h] at e
  cases e
theorem StD.weak {B' : Hp} (s : StD K B' W ρ σ H) (h : Same B B') : StD K B W ρ σ H := by
  obtain ⟨F, s⟩ := s
  exact ⟨F, h.trans s.same, s.len, s.nd, s.dj, fun i a m => h.free (s.fresh i a m), s.ent, s.out⟩
end
/-! ### what is wanted behind a block -/
structure DEnds where
  nx : DEnv → Prop
  rt : DE → Prop
  bk : DEnv → Prop := fun _ => False
  ct : DEnv → Prop := fun _ => False
def OutR (K : PySem.W.Frag) (H : Hp) (a : Addr) (S : List Addr) : OE → Prop
  | .n => S = []
  | .d x => OwnR K H (.ref a) x S
  | .o u => S = [a] ∧ H a = some u ∧ Mut (some u)
/-- what a def hands back -/
def RetR (K : PySem.W.Frag) (B : Hp) (W : Addr → Prop) (H : Hp) (v : V) : DE → Prop
  | .fz d => Rp K (Hide H W) v d
  | .ow d => ∃ S, OwnR K H v d S ∧ S.Nodup ∧ ∀ a ∈ S, B a = none
  | .io r as os => Rp K (Hide H W) v r ∧ lf r = true ∧ ∃ F : Nat → List Addr, (∀ i e, os[i]? = some e → OutR K H (as i) (F i) e) ∧ (∀ i, (F i).Nodup) ∧ (∀ i j a, a ∈ F i → a ∈ F j → i = j) ∧ (∀ i, os.length ≤ i → F i = []) ∧ ∀ i, ∀ a ∈ F i, B a = none
  | _ => False
def toE (K : PySem.W.Frag) (B : Hp) (W : Addr → Prop) (D : DEnds) : Ends where
  nx := fun σ H => ∃ ρ, StD K B W ρ σ H ∧ D.nx ρ
  rt := fun v H => Same B H ∧ ∃ o, RetR K B W H v o ∧ D.rt o
  bk := fun σ H => ∃ ρ, StD K B W ρ σ H ∧ D.bk ρ
  ct := fun σ H => ∃ ρ, StD K B W ρ σ H ∧ D.ct ρ
def SD (X : Cx) (sts : List Stmt) (ρ : DEnv) (D : DEnds) : Prop := ∀ (B : Hp) (W : Addr → Prop) (σ : L2.St) (H : Hp), MutU W B → StD X.K B W ρ σ H → WB X sts (toE X.K B W D) σ H
def S1 (X : Cx) (st : Stmt) (ρ : DEnv) (D : DEnds) : Prop := ∀ (B : Hp) (W : Addr → Prop) (σ : L2.St) (H : Hp), MutU W B → StD X.K B W ρ σ H → WS X st (toE X.K B W D) σ H
section
variable {X : Cx} {ρ : DEnv} {D D' : DEnds} {st : Stmt} {sts rest : List Stmt} {e c : Expr} {pos pos' : Pos}
theorem toE_mono {K : PySem.W.Frag} {B : Hp} {W : Addr → Prop} {sts : List Stmt} {σ : L2.St} {H : Hp} (h : WB X sts (toE K B W D) σ H) (n : ∀ ρ, D.nx ρ → D'.nx ρ) (r : ∀ o, D.rt o → D'.rt o) (b : ∀ ρ, D.bk ρ → D'.bk ρ) (k : ∀ ρ, D.ct ρ → D'.ct ρ) : WB X sts (toE K B W D') σ H :=
  wb_mono h (fun σ H ⟨ρ, s, q⟩ => ⟨ρ, s, n _ q⟩) (fun v H ⟨s, o, a, q⟩ => ⟨s, o, a, r _ q⟩) (fun σ H ⟨ρ, s, q⟩ => ⟨ρ, s, b _ q⟩) (fun σ H ⟨ρ, s, q⟩ => ⟨ρ, s, k _ q⟩)
theorem sd_nil (q : D.nx ρ) : SD X [] ρ D := fun B W σ H hW s => wb_of pss_nil ⟨ρ, s, q⟩
theorem sd_cons (h : S1 X st ρ { D with nx := fun ρ' => SD X rest ρ' D }) : SD X (st :: rest) ρ D := fun B W σ H hW s => by
  refine wb_of (pss_cons ps_w pb_w) ?_
  refine ws_mono (h B W σ H hW s) (fun σ' H' ⟨ρ', s', q⟩ => q B W σ' H' hW s') (fun _ _ z => z) (fun _ _ z => z) (fun _ _ z => z)
theorem sd_mono (h : SD X sts ρ D) (n : ∀ ρ, D.nx ρ → D'.nx ρ) (r : ∀ o, D.rt o → D'.rt o) (b : ∀ ρ, D.bk ρ → D'.bk ρ) (k : ∀ ρ, D.ct ρ → D'.ct ρ) : SD X sts ρ D' := fun B W σ H hW s => toE_mono (h B W σ H hW s) n r b k
theorem s_expr (h : RD X e ρ fun _ => D.nx ρ) (hs : swapsWith e none pos.line X.env = pure false := by rfl) : S1 X (.Expr e pos) ρ D := fun B W σ H hW ⟨F, s⟩ =>
  ws_of (ps_expr pe_w hs) (we_mono (h _ σ H (s.mut hW) s.env) fun v H' ⟨e', o, r, q⟩ => ⟨ρ, ⟨F, s.mono e'⟩, q⟩)
theorem s_doc {x : Str} {j : Nat} (q : D.nx ρ) : S1 X (.Expr (.Constant (.str x) j pos) pos') ρ D := fun B W σ H hW s => ws_of ps_doc ⟨ρ, s, q⟩
theorem s_pass (q : D.nx ρ) : S1 X (.Pass pos) ρ D := fun B W σ H hW s => ws_of ps_pass ⟨ρ, s, q⟩
theorem s_break (q : D.bk ρ) : S1 X (.Break pos) ρ D := fun B W σ H hW s => ws_of ps_break ⟨ρ, s, q⟩
theorem s_cont (q : D.ct ρ) : S1 X (.Continue pos) ρ D := fun B W σ H hW s => ws_of ps_continue ⟨ρ, s, q⟩
theorem s_if {a b : List Stmt} (h : RT X c ρ fun r => (r = true → SD X a ρ D) ∧ (r = false → SD X b ρ D)) : S1 X (.If c a b pos) ρ D := fun B W σ H hW ⟨F, s⟩ => by
  refine ws_of (ps_if pt_w pb_w pb_w) (wt_mono (h _ σ H (s.mut hW) s.env) fun r H' ⟨e', q1, q2⟩ => ?_)
  cases r with
  | true => exact iteT (q1 rfl B W σ H' hW ⟨F, s.mono e'⟩)
  | false => exact iteF (q2 rfl B W σ H' hW ⟨F, s.mono e'⟩)
/-! ### return -/
theorem own_atS {K : PySem.W.Frag} {H : Hp} {v : V} {d : PyData} {p : List Nat} {u : V} {d' : PyData} (h : AtV H v d p u d') : ∀ {S : List Addr}, OwnR K H v d S → ∃ S', OwnR K H u d' S' ∧ S'.Sublist S := by
  induction h with
  | nil => intro S o; exact ⟨S, o, List.Sublist.refl _⟩
  | lst h1 h2 h3 _ ih =>
    intro S o
    obtain ⟨a, xs, T, e, e1, e2, rfl⟩ := own_list o
    cases e
    rw [h1] at e1
    cases e1
    obtain ⟨S', o', m⟩ := owns_getS e2 h2 h3
    obtain ⟨S'', o'', m'⟩ := ih o'
    exact ⟨S'', o'', (m'.trans m).trans (List.sublist_cons_self _ _)⟩
  | tup h0 h1 h2 h3 _ ih =>
    intro S o
    obtain ⟨a, xs, e, e1, e2⟩ := own_tuple o h0
    cases e
    rw [h1] at e1
    cases e1
    obtain ⟨S', o', m⟩ := owns_getS e2 h2 h3
    obtain ⟨S'', o'', m'⟩ := ih o'
    exact ⟨S'', o'', m'.trans m⟩
def retE (ρ : DEnv) : DE → Option DE
  | .fz d => some (.fz d)
  | .ow d => some (.ow d)
  | .al j p => match dat ρ (.al j p) with
    | some d => some (.ow d)
    | none => none
  | _ => none
theorem ret_ok {K : PySem.W.Frag} {B : Hp} {W : Addr → Prop} {σ : L2.St} {H H' : Hp} {F : Nat → List Addr} {v : V} {o o' : DE} (s : StF K B W ρ σ H F) (hW : MutU W B) (e : Same H H') (r : ResR K (UF W F) ρ σ H H' v o) (h : retE ρ o = some o') : RetR K B W H' v o' := by
  cases o with
  | un => cases h
  | vl v => cases h
  | sh v => cases h
  | ob _ => cases h
  | rt _ _ => cases h
  | im _ => cases h
  | io _ _ _ => cases h
  | fz d =>
    cases h
    exact dp_sub (fun b o z => by
      obtain ⟨n, z⟩ := hide_some.mp z
      exact hide_some.mpr ⟨fun q => n (.inl q), z⟩) _ _ r
  | ow d =>
    cases h
    obtain ⟨S, a, b, c⟩ := r
    exact ⟨S, a, b, fun x hx => s.same.free (c x hx)⟩
  | al j p =>
    obtain ⟨w, d, d', a, b, c⟩ := r
    have hd : dat ρ (.al j p) = some d' := by
      show (match ρ[j]? with
        | some (.ow d) => subAt d p
        | _ => none) = some d'
      rw [a]
      exact at_sub c
    have h' : (match dat ρ (.al j p) with
      | some d => some (DE.ow d)
      | none => none) = some o' := h
    rw [hd] at h'
    cases h'
    have s' := s.mono e
    obtain ⟨v', q1, q2⟩ := s'.ent j _ a
    rw [b] at q1
    cases q1
    obtain ⟨S', o', sl⟩ := own_atS c q2
    exact ⟨S', o', sl.nodup (s.nd j), fun x hx => s.fresh j x (sl.subset hx)⟩
theorem s_ret (h : RD X e ρ fun o => ∃ o', retE ρ o = some o' ∧ D.rt o') : S1 X (.Return (some e) pos) ρ D := fun B W σ H hW ⟨F, s⟩ =>
  ws_of (ps_ret pe_w) (we_mono (h _ σ H (s.mut hW) s.env) fun v H' ⟨e', o, r, o', ho, q⟩ => ⟨s.same.trans e', o', ret_ok s hW e' r ho, q⟩)
theorem s_retN (q : D.rt (.fz .none)) : S1 X (.Return none pos) ρ D := fun B W σ H hW ⟨F, s⟩ => ws_of ps_retN ⟨s.same, .fz .none, Rp.non, q⟩
end
end DL
namespace DL
open PySem PySem.Spec PyProof.Rows L2

/-! ### a name's slot is stored -/
def kil (i : Nat) : DE → DE
  | .al j p => if j = i then .un else .al j p
  | .rt j a => if j = i then .un else .rt j a
  | e => e
def setV (ρ : DEnv) (i : Nat) (e : DE) : DEnv := (ρ.map (kil i)).set i e
theorem setV_len {ρ : DEnv} {i : Nat} {e : DE} : (setV ρ i e).length = ρ.length := by
  unfold setV
  rw [List.length_set, List.length_map]
theorem setV_same {ρ : DEnv} {i : Nat} {e : DE} (h : i < ρ.length) : (setV ρ i e)[i]? = some e := by
  unfold setV
  rw [List.getElem?_set_self (by rw [List.length_map]; exact h)]
theorem setV_ne {ρ : DEnv} {i k : Nat} {e : DE} (h : i ≠ k) : (setV ρ i e)[k]? = (ρ[k]?).map (kil i) := by
  unfold setV
  rw [List.getElem?_set_ne h, List.getElem?_map]
theorem setV_ow {ρ : DEnv} {i k : Nat} {e : DE} {d : PyData} (h : i ≠ k) (g : ρ[k]? = some (.ow d)) : (setV ρ i e)[k]? = some (.ow d) := by
  rw [setV_ne h, g]
  rfl
def setF (F : Nat → List Addr) (i : Nat) (S : List Addr) : Nat → List Addr := fun k => if k = i then S else F k
theorem setF_same {F : Nat → List Addr} {i : Nat} {S : List Addr} : setF F i S i = S := by unfold setF; rw [if_pos rfl]
theorem setF_ne {F : Nat → List Addr} {i k : Nat} {S : List Addr} (h : k ≠ i) : setF F i S k = F k := by unfold setF; rw [if_neg h]
section
variable {K : PySem.W.Frag} {B : Hp} {W : Addr → Prop} {ρ : DEnv} {σ : L2.St} {H H' : Hp} {F : Nat → List Addr}
theorem uf_set {i : Nat} {S : List Addr} {a : Addr} (h : UF W (setF F i S) a) : UF W F a ∨ a ∈ S := by
  rcases h with h | ⟨k, h⟩
  · exact .inl (.inl h)
  · by_cases hk : k = i
    · subst hk
      rw [setF_same] at h
      exact .inr h
    · rw [setF_ne hk] at h
      exact .inl (.inr ⟨k, h⟩)
theorem st_set {i : Nat} {e : DE} {v : V} {S : List Addr} (s : StF K B W ρ σ H F) (h : Same H H') (hi : i < ρ.length) (hn : S.Nodup) (hf : ∀ a ∈ S, H a = none) (he : Ent K (UF W (setF F i S)) (setV ρ i e) (σ.set i (some v)) H' (some (some v)) S e) :
    StF K B W (setV ρ i e) (σ.set i (some v)) H' (setF F i S) := by
  have hσ : i < σ.length := Nat.lt_of_lt_of_le hi s.len
  have sep : ∀ k a, a ∈ F k → a ∉ S := fun k a h1 h2 => by
    obtain ⟨xs, e, _⟩ := s.lstAt h1
    rw [hf a h2] at e
    cases e
  refine ⟨s.same.trans h, by rw [setV_len, List.length_set]; exact s.len, fun k => ?_, fun k l a h1 h2 => ?_, fun k a h1 => ?_, fun k o ho => ?_, fun k ho => ?_⟩
  · by_cases hk : k = i
    · rw [hk, setF_same]; exact hn
    · rw [setF_ne hk]; exact s.nd k
  · by_cases hk : k = i
    · rw [hk, setF_same] at h1
      by_cases hl : l = i
      · rw [hk, hl]
      · rw [setF_ne hl] at h2
        exact absurd h1 (sep l a h2)
    · rw [setF_ne hk] at h1
      by_cases hl : l = i
      · rw [hl, setF_same] at h2
        exact absurd h2 (sep k a h1)
      · rw [setF_ne hl] at h2
        exact s.dj k l a h1 h2
  · by_cases hk : k = i
    · rw [hk, setF_same] at h1
      exact s.same.free (hf a h1)
    · rw [setF_ne hk] at h1
      exact s.fresh k a h1
  · by_cases hk : i = k
    · subst hk
      rw [setV_same hi] at ho
      cases ho
      rw [List.getElem?_set_self hσ, setF_same]
      exact he
    · rw [setV_ne hk] at ho
      rw [List.getElem?_set_ne hk, setF_ne (Ne.symm hk)]
      cases hr : ρ[k]? with
      | none => rw [hr] at ho; cases ho
      | some u =>
        rw [hr] at ho
        have ho' : kil i u = o := Option.some.inj ho
        have q := (s.mono h).ent k u hr
        subst ho'
        cases u with
        | un => exact q
        | fz d =>
          obtain ⟨a, v', b, c⟩ := s.ent k _ hr
          exact ⟨a, v', b, dp_sub (hide_same h fun x o hx hu => by
            rcases uf_set hu with z | z
            · exact z
            · rw [hf x z] at hx
              cases hx) _ _ c⟩
        | ow d => exact q
        | al j p =>
          obtain ⟨a, v', w, d, d', b, c, g, t⟩ := q
          show Ent K _ _ _ H' _ _ (if j = i then .un else .al j p)
          by_cases hj : j = i
          · rw [if_pos hj]; exact a
          · rw [if_neg hj]
            exact ⟨a, v', w, d, d', b, setV_ow (Ne.symm hj) c, by rw [List.getElem?_set_ne (Ne.symm hj)]; exact g, t⟩
        | sh ds =>
          obtain ⟨a, vs, x1, x2, x3, x4⟩ := s.ent k _ hr
          exact ⟨a, vs, x1, x2, h _ _ x3, dps_sub (hide_same h fun x o hx hu => by
            rcases uf_set hu with z | z
            · exact z
            · rw [hf x z] at hx
              cases hx) _ _ x4⟩
        | vl v => exact q
        | ob u => exact q
        | rt j a =>
          show Ent K _ _ _ H' _ _ (if j = i then .un else .rt j a)
          by_cases hj : j = i
          · rw [if_pos hj]; exact q.1
          · rw [if_neg hj]
            exact ⟨q.1, by rw [List.getElem?_set_ne (Ne.symm hj)]; exact q.2⟩
        | im f =>
          obtain ⟨n, a, x1, x2⟩ := s.ent k _ hr
          exact ⟨n, a, x1, x2.trans (hide_same h (fun x o hx hu => by
            rcases uf_set hu with z | z
            · exact z
            · rw [hf x z] at hx
              cases hx))⟩
        | io _ _ _ => exact q
  · have hk : k ≠ i := fun z => by
      rw [z, setV_same hi] at ho
      cases ho
    rw [setF_ne hk]
    rw [setV_ne (Ne.symm hk)] at ho
    cases hr : ρ[k]? with
    | none => exact s.out k hr
    | some u => rw [hr] at ho; cases ho
theorem st_setFz' {i : Nat} {v : V} {d : PyData} (s : StF K B W ρ σ H F) (h : Same H H') (hi : i < ρ.length) (p : Rp K (Hide H' (UF W F)) v d) : StF K B W (setV ρ i (.fz d)) (σ.set i (some v)) H' (setF F i []) :=
  st_set (S := []) s h hi .nil (fun a z => by cases z) ⟨rfl, v, rfl, dp_sub (hide_same (Same.refl _) fun x o hx hu => by
    rcases uf_set hu with z | z
    · exact z
    · cases z) _ _ p⟩
theorem st_setFz {i : Nat} {v : V} {d : PyData} (s : StF K B W ρ σ H F) (h : Same H H') (hi : i < ρ.length) (p : Rp K (Hide H' (UF W F)) v d) : StD K B W (setV ρ i (.fz d)) (σ.set i (some v)) H' := ⟨_, st_setFz' s h hi p⟩
def setVs (ρ : DEnv) : List Nat → List PyData → DEnv
  | i :: is, d :: ds => setVs (setV ρ i (.fz d)) is ds
  | _, _ => ρ
theorem st_sets : ∀ (is : List Nat) (vs : List V) (ds : List PyData) {ρ : DEnv} {σ : L2.St} {F : Nat → List Addr}, StF K B W ρ σ H F → (∀ i ∈ is, i < ρ.length) → RpAll K (Hide H (UF W F)) vs ds → StD K B W (setVs ρ is ds) (setS σ is vs) H
  | [], vs, ds, ρ, σ, F, s, h, p => by
    unfold setVs setS
    exact ⟨F, s⟩
  | i :: is, _, _, ρ, σ, F, s, h, .nil => ⟨F, s⟩
  | i :: is, _, _, ρ, σ, F, s, h, .cons p1 p2 => st_sets is _ _ (st_setFz' s (Same.refl _) (h i List.mem_cons_self) p1) (fun j m => by rw [setV_len]; exact h j (List.mem_cons_of_mem _ m)) (dps_sub (hide_same (Same.refl _) fun x o hx hu => by
    rcases uf_set hu with z | z
    · exact z
    · cases z) _ _ p2)
theorem st_setOw {i : Nat} {v : V} {d : PyData} {S : List Addr} (s : StF K B W ρ σ H F) (h : Same H H') (hi : i < ρ.length) (p : OwnR K H' v d S) (hn : S.Nodup) (hf : ∀ a ∈ S, H a = none) : StD K B W (setV ρ i (.ow d)) (σ.set i (some v)) H' :=
  ⟨_, st_set s h hi hn hf ⟨v, rfl, p⟩⟩
theorem st_setAl {i j : Nat} {p : List Nat} {v w : V} {d d' : PyData} (s : StF K B W ρ σ H F) (h : Same H H') (hi : i < ρ.length) (hj : i ≠ j) (a : ρ[j]? = some (.ow d)) (b : σ[j]? = some (some w)) (c : AtV H' w d p v d') : StD K B W (setV ρ i (.al j p)) (σ.set i (some v)) H' :=
  ⟨_, st_set (S := []) s h hi .nil (fun a z => by cases z) ⟨rfl, v, w, d, d', rfl, setV_ow hj a, by rw [List.getElem?_set_ne hj]; exact b, c⟩⟩
theorem st_setVl {i : Nat} {v : V} (s : StF K B W ρ σ H F) (h : Same H H') (hi : i < ρ.length) : StD K B W (setV ρ i (.vl v)) (σ.set i (some v)) H' :=
  ⟨_, st_set (S := []) s h hi .nil (fun a z => by cases z) ⟨rfl, rfl⟩⟩
theorem st_setIm {i : Nat} {v : V} {f : Option (Option V) → Option Hp} (s : StF K B W ρ σ H F) (h : Same H H') (hi : i < ρ.length) (p : ∃ g, f (some (some v)) = some g ∧ Same g (Hide H' (UF W F))) : StD K B W (setV ρ i (.im f)) (σ.set i (some v)) H' := by
  obtain ⟨a, e, p⟩ := p
  exact ⟨_, st_set (S := []) s h hi .nil (fun a z => by cases z) ⟨rfl, a, e, p.trans (hide_same (Same.refl _) (fun x o hx hu => by
    rcases uf_set hu with z | z
    · exact z
    · cases z))⟩⟩
end
/-- what a store makes of the entries: the ways there are -/
abbrev BindD (ρ : DEnv) (i : Nat) (o : DE) (k : DEnv → Prop) : Prop := match o with
  | .fz d => k (setV ρ i (.fz d))
  | .ow d => k (setV ρ i (.ow d))
  | .al j p => ∃ d, dat ρ (.al j p) = some d ∧ ((lf d = true ∧ k (setV ρ i (.fz d))) ∨ (i ≠ j ∧ k (setV ρ i (.al j p))))
  | .vl v => k (setV ρ i (.vl v))
  | .un => False
  | .sh _ => False
  | .ob _ => False
  | .rt _ _ => False
  | .im f => k (setV ρ i (.im f))
  | .io _ _ _ => False
/-- .. frozen -/
abbrev BindF (ρ : DEnv) (i : Nat) (o : DE) (k : DEnv → Prop) : Prop := ∃ d, frd ρ o d ∧ k (setV ρ i (.fz d))
section
variable {K : PySem.W.Frag} {B : Hp} {W : Addr → Prop} {ρ : DEnv} {σ : L2.St} {H H' : Hp} {F : Nat → List Addr}
theorem bind_ok {i : Nat} {o : DE} {v : V} {k : DEnv → Prop} (s : StF K B W ρ σ H F) (hW : MutU W B) (h : Same H H') (hi : i < ρ.length) (r : ResR K (UF W F) ρ σ H H' v o) (q : BindD ρ i o k) : ∃ ρ', StD K B W ρ' (σ.set i (some v)) H' ∧ k ρ' := by
  cases o with
  | un => exact q.elim
  | sh _ => exact q.elim
  | ob _ => exact q.elim
  | rt _ _ => exact q.elim
  | im f => exact ⟨_, st_setIm s h hi r, q⟩
  | io _ _ _ => exact q.elim
  | fz d => exact ⟨_, st_setFz s h hi r, q⟩
  | ow d =>
    obtain ⟨S, a, b, c⟩ := r
    exact ⟨_, st_setOw s h hi a b c, q⟩
  | al j p =>
    obtain ⟨d, hd, q⟩ := q
    rcases q with ⟨hl, q⟩ | ⟨hj, q⟩
    · exact ⟨_, st_setFz s h hi (dp_lf (hide_tups ((s.mono h).mut hW)) _ _ (res_dp s.env h r hd) hl), q⟩
    · obtain ⟨w, e, e', a, b, c⟩ := r
      exact ⟨_, st_setAl s h hi hj a b c, q⟩
  | vl v' =>
    have e : v = v' := r
    subst e
    exact ⟨_, st_setVl s h hi, q⟩
theorem bindF_ok {i : Nat} {o : DE} {v : V} {k : DEnv → Prop} (s : StF K B W ρ σ H F) (hW : MutU W B) (h : Same H H') (hi : i < ρ.length) (r : ResR K (UF W F) ρ σ H H' v o) (q : BindF ρ i o k) : ∃ ρ', StD K B W ρ' (σ.set i (some v)) H' ∧ k ρ' := by
  obtain ⟨d, hd, q⟩ := q
  exact ⟨_, st_setFz s h hi (frd_dp (s.mut hW) s.env h r hd), q⟩
end
section
variable {X : Cx} {ρ : DEnv} {D D' : DEnds} {st : Stmt} {sts rest body : List Stmt} {e c iter tg : Expr} {pos pos' : Pos} {x : Str}
/-- name = value -/
theorem s_set (i : Nat) (h : RD X e ρ fun o => BindD ρ i o D.nx) (hN : X.N.Nodup) (hi : X.N[i]? = some x := by rfl) (hx : Loc X.env.scope x := by first | exact Or.inl rfl | exact Or.inr rfl) (hl : Nat.blt i ρ.length = true := by rfl) (hs : swapsWith e (some (.Name x pos')) pos.line X.env = pure false := by rfl)
    (hf : X.fn x = true ∨ X.env.scope.names.lookup x = some .local := by first | exact .inl rfl | exact .inr rfl) : S1 X (.Assign [.Name x pos'] e pos) ρ D := fun B W σ H hW ⟨F, s⟩ =>
  ws_of (ps_set hN hi hx pe_w hs hf) (we_mono (h _ σ H (s.mut hW) s.env) fun v H' ⟨e', o, r, q⟩ => bind_ok s hW e' (Nat.blt_eq.mp hl) r q)
theorem s_setF (i : Nat) (h : RD X e ρ fun o => BindF ρ i o D.nx) (hN : X.N.Nodup) (hi : X.N[i]? = some x := by rfl) (hx : Loc X.env.scope x := by first | exact Or.inl rfl | exact Or.inr rfl) (hl : Nat.blt i ρ.length = true := by rfl) (hs : swapsWith e (some (.Name x pos')) pos.line X.env = pure false := by rfl)
    (hf : X.fn x = true ∨ X.env.scope.names.lookup x = some .local := by first | exact .inl rfl | exact .inr rfl) : S1 X (.Assign [.Name x pos'] e pos) ρ D := fun B W σ H hW ⟨F, s⟩ =>
  ws_of (ps_set hN hi hx pe_w hs hf) (we_mono (h _ σ H (s.mut hW) s.env) fun v H' ⟨e', o, r, q⟩ => bindF_ok s hW e' (Nat.blt_eq.mp hl) r q)
/-- x, y = a, b -/
theorem s_par {y : Str} {a b : Expr} {px py pt : Pos} {kt k2 pt2} (i j : Nat) (h : RFA X [a, b] ρ fun ds => ∃ d1 d2, ds = [d1, d2] ∧ D.nx (setV (setV ρ i (.fz d1)) j (.fz d2))) (hc : X.calm = true) (hN : X.N.Nodup) (hi : X.N[i]? = some x := by rfl) (hj : X.N[j]? = some y := by rfl) (hij : i ≠ j := by decide)
    (hx : X.env.scope.names.lookup x = some .local := by rfl) (hy : X.env.scope.names.lookup y = some .local := by rfl) (hl : Nat.blt i ρ.length = true := by rfl) (hl2 : Nat.blt j ρ.length = true := by rfl)
    (hw : swappedStores [.Tuple [.Name x px, .Name y py] kt pt] (.Tuple [a, b] k2 pt2) X.env = pure (some [x, y]) := by rfl)
    (hs : swapsWithSole [.Tuple [.Name x px, .Name y py] kt pt] (.Tuple [a, b] k2 pt2) pos.line X.env = pure false := by rfl) :
    S1 X (.Assign [.Tuple [.Name x px, .Name y py] kt pt] (.Tuple [a, b] k2 pt2) pos) ρ D := fun B W σ H hW ⟨F, s⟩ => by
  refine ws_of (ps_par hc hN hi hj hij hx hy pa_w hw hs) (wa_mono (h _ σ H (s.mut hW) s.env) fun vs H' ⟨e', ds, ps, d1, d2, ed, q⟩ => ?_)
  subst ed
  obtain ⟨v, w, rfl, p1, p2⟩ := rps2 ps
  exact ⟨v, w, rfl, _, st_sets [i, j] [v, w] [d1, d2] (s.mono e') (fun k hk => by
    rcases List.mem_cons.mp hk with z | z
    · rw [z]; exact Nat.blt_eq.mp hl
    · rw [List.mem_singleton.mp z]; exact Nat.blt_eq.mp hl2) ps, q⟩
/-- a, b, .. = a tuple, the parts frozen -/
theorem s_unpack {es : List Expr} {kk : Nat} (is : List Nat) (h : RF X e ρ fun d => ∃ ds, d = .tuple ds ∧ ds.length = is.length ∧ D.nx (setVs ρ is ds)) (hg : PG X (.Tuple es kk pos') (tgR X.K (.tup is))) (hl : (is.all fun i => Nat.blt i ρ.length) = true := by rfl)
    (hs : swapsWithSole [.Tuple es kk pos'] e pos.line X.env = pure false := by rfl) (hw : swappedStores [.Tuple es kk pos'] e X.env = pure none := by rfl) (h1 : (assignEach [.Tuple es kk pos'] X.env).map (·.2) = [assign (.Tuple es kk pos') X.env] := by rfl) :
    S1 X (.Assign [.Tuple es kk pos'] e pos) ρ D := fun B W σ H hW ⟨F, s⟩ => by
  refine ws_of (ps_asg pe_w hg hs hw h1) (we_mono (h _ σ H (s.mut hW) s.env) fun v H' ⟨e', d, p, ds, ed, hlen, q⟩ => ?_)
  subst ed
  refine tgR_run (t := .tup is) (ds := ds) hide_sub p (by show (if ds.length = is.length then some ds else none) = some ds; rw [if_pos hlen]) fun vs hvs hvl => ?_
  exact ⟨_, st_sets is vs ds (s.mono e') (fun i m => Nat.blt_eq.mp (List.all_eq_true.mp hl i m)) hvs, q⟩
/-- name += an int -/
theorem s_augI {op : Operator} {f : Int → Int → Int} (i : Nat) (hop : PIp X op (ipI f)) {k : Int} (hk : ρ[i]? = some (.fz (.int k))) (h : RV X e ρ fun d => ∃ n, d = .int n ∧ D.nx (setV ρ i (.fz (.int (f k n))))) (hN : X.N.Nodup) (hi : X.N[i]? = some x := by rfl) (hx : Loc X.env.scope x := by first | exact Or.inl rfl | exact Or.inr rfl) (hl : Nat.blt i ρ.length = true := by rfl)
    (hf : X.fn x = true ∨ X.env.scope.names.lookup x = some .local := by first | exact .inl rfl | exact .inr rfl) : S1 X (.AugAssign (.Name x pos') op e pos) ρ D := fun B W σ H hW ⟨F, s⟩ => by
  obtain ⟨_, v, hv, hp⟩ := s.ent i _ hk
  cases hp
  refine ws_of (ps_aug hN hi hx pe_w hop hf) ⟨.int k, hv, we_mono (h _ σ H (s.mut hW) s.env) fun w H' ⟨e', d, p, n, ed, q⟩ => ?_⟩
  subst ed
  cases p
  exact ⟨k, n, rfl, rfl, _, st_setFz s e' (Nat.blt_eq.mp hl) (.int _), q⟩
/-! ### loops -/
theorem hide_base {H : Hp} {W : Addr → Prop} {F : Nat → List Addr} : Hide (baseOf H F) W = Hide H (UF W F) := by
  funext a
  by_cases h : UF W F a
  · rw [hide_none h]
    rcases h with h | h
    · exact hide_none h
    · by_cases hw : W a
      · exact hide_none hw
      · rw [hide_eq hw]
        exact hide_none h
  · rw [hide_eq h, hide_eq fun z => h (.inl z)]
    exact hide_eq fun z => h (.inr z)
theorem base_hide {K : PySem.W.Frag} {B : Hp} {W : Addr → Prop} {ρ : DEnv} {σ : L2.St} {H : Hp} {F : Nat → List Addr} (s : StF K B W ρ σ H F) : Same (Hide B W) (Hide H (UF W F)) := fun b o e => by
  obtain ⟨n, e⟩ := hide_some.mp e
  refine hide_some.mpr ⟨fun z => ?_, s.same b o e⟩
  rcases z with z | ⟨i, z⟩
  · exact n z
  · rw [s.fresh i b z] at e
    cases e
theorem toE_weak {K : PySem.W.Frag} {B B' : Hp} {W : Addr → Prop} (hb : Same B B') {v : V} {H : Hp} (h : (toE K B' W D).rt v H) : (toE K B W D).rt v H := by
  obtain ⟨a, o, r, q⟩ := h
  refine ⟨hb.trans a, o, ?_, q⟩
  cases o with
  | ow d =>
    obtain ⟨S, x, y, z⟩ := r
    exact ⟨S, x, y, fun a m => hb.free (z a m)⟩
  | un => exact r
  | fz d => exact r
  | al j p => exact r
  | vl v => exact r
  | sh v => exact r
  | ob _ => exact r
  | rt _ _ => exact r
  | im _ => exact r
  | io _ _ _ =>
    obtain ⟨x1, x2, S, x3, x4, x5, x6, x7⟩ := r
    exact ⟨x1, x2, S, x3, x4, x5, x6, fun i a m => hb.free (x7 i a m)⟩
theorem s_for (t : Tgt) (h : RI X tg iter ρ fun items => ∃ inv : Nat → DEnv → Prop, inv 0 ρ ∧ (∀ k d ρ', items[k]? = some d → inv k ρ' → ∃ ds, t.parts d = some ds ∧ (t.all.all fun i => Nat.blt i ρ'.length) = true ∧
      SD X body (setVs ρ' t.all ds) { nx := inv (k + 1), rt := D.rt, bk := D.nx, ct := inv (k + 1) }) ∧ ∀ ρ', inv items.length ρ' → D.nx ρ')
    (hp : PassesOwn (model X.prog X.w) X.A X.env X.xe) (hc : X.calm = true) (hg : PG X tg (tgR X.K t)) (hs : ∀ x, foldedSetIterable iter X.env x = pure x := by intro _; rfl) : S1 X (.For tg iter body [] pos) ρ D := fun B W σ H hW ⟨F, s⟩ => by
  obtain ⟨wi, hwi, h1⟩ := h _ σ H (s.mut hW) s.env
  have pi' : PI X tg iter (fun σ' H' R => σ' = σ ∧ H' = H ∧ ∀ J H1, (Same H H1 ∧ ∃ items SP0, SP0 (Hide H1 (UF W F)) ∧ WalkD X.K J SP0 items ∧ ∃ inv : Nat → DEnv → Prop, inv 0 ρ ∧ (∀ k d ρ', items[k]? = some d → inv k ρ' → ∃ ds, t.parts d = some ds ∧ (t.all.all fun i => Nat.blt i ρ'.length) = true ∧
      SD X body (setVs ρ' t.all ds) { nx := inv (k + 1), rt := D.rt, bk := D.nx, ct := inv (k + 1) }) ∧ ∀ ρ', inv items.length ρ' → D.nx ρ') → R J H1) := by
    refine ⟨fun pins s' σ' H' R I hh => ?_⟩
    obtain ⟨e1, e2, hR⟩ := hh
    subst e1 e2
    have z := hwi.run pins s' _ _ _ I h1
    refine thn z fun v s1 z1 => thn z1 fun itv s2 ⟨it, fp, tn, J, H', a1, a2, a3, a4, a5, a6⟩ => ⟨it, fp, tn, J, H', a1, a2, a3, a4, a5, hR J H' a6⟩
  refine ws_of (ps_for hp hc pi' hg pb_w hs) ⟨rfl, rfl, fun J H1 ⟨e1, items, SP0, hSt, Wk, inv, i0, istep, iend⟩ => ?_⟩
  have s1 := (s.mono e1).rebase
  have hb := (s.mono e1).base_sub
  have hW1 : MutU W (baseOf H1 F) := hW.mono hb
  have hSt1 : SP0 (Hide (baseOf H1 F) W) := by rw [hide_base]; exact hSt
  refine ⟨fun i m σ' H' => m = items.length - i ∧ i ≤ items.length ∧ ∃ ρ', StD X.K (baseOf H1 F) W ρ' σ' H' ∧ inv i ρ', ⟨items.length, by simp, Nat.zero_le _, ρ, ⟨F, s1⟩, i0⟩, ?_⟩
  rintro i m σ2 H2 ⟨rfl, hi, ρ2, ⟨F2, s2⟩, iv⟩
  have sG : Same (Hide (baseOf H1 F) W) H2 := (base_hide s2).trans hide_sub
  by_cases hlt : i < items.length
  · refine .inr ⟨Wk.go hSt1 sG hlt, fun σ' H' => ∃ ρ', StD X.K (baseOf H1 F) W ρ' σ' H' ∧ inv (i + 1) ρ', fun σ' H' ⟨ρ', a, b⟩ => ⟨items.length - (i + 1), by omega, rfl, hlt, ρ', a, b⟩, fun x H3 hy => ?_⟩
    obtain ⟨s23, d, G', hd, sGG, sG3, hfr, hpx⟩ := Wk.yld hSt1 sG hlt hy
    obtain ⟨ds, hds, hl, body_ok⟩ := istep i d ρ2 hd iv
    have s3 := s2.mono s23
    have sG4 : Same G' (Hide H3 (UF W F2)) := fun b o e => by
      refine hide_some.mpr ⟨fun z => ?_, sG3 b o e⟩
      rcases z with z | ⟨k, z⟩
      · obtain ⟨o', e'⟩ := mut_some (hW1 b z)
        have := hfr b o e (hide_none z)
        rw [s2.same b o' e'] at this
        cases this
      · obtain ⟨xs, e', me⟩ := s2.lstAt z
        have := hfr b o e (by
          cases q : Hide (baseOf H1 F) W b with
          | none => rfl
          | some u =>
            have := (hide_some.mp q).2
            rw [s2.fresh k b z] at this
            cases this)
        rw [e'] at this
        cases this
    refine tgR_run (G := G') sG3 hpx hds fun vs hvs hvl => ?_
    have st4 := st_sets t.all vs ds s3 (fun i m => Nat.blt_eq.mp (List.all_eq_true.mp hl i m)) (dps_sub sG4 _ _ hvs)
    refine wb_mono (body_ok (baseOf H1 F) W _ H3 hW1 st4) (fun σ' H' z => z) (fun v H' z => toE_weak hb z) (fun σ' H' ⟨ρ', a, b⟩ => ⟨ρ', a.weak hb, b⟩) (fun σ' H' z => z)
  · have e : i = items.length := by omega
    subst e
    exact .inl ⟨Wk.stop hSt1 sG (Nat.le_refl _), ρ2, StD.weak ⟨F2, s2⟩ hb, iend ρ2 iv⟩
theorem s_while (inv : Nat → DEnv → Prop) (m0 : Nat) (i0 : inv m0 ρ) (step : ∀ m ρ', inv m ρ' → RT X c ρ' fun b => (b = true → SD X body ρ' { nx := fun ρ'' => ∃ m', m' < m ∧ inv m' ρ'', rt := D.rt, bk := D.nx, ct := fun ρ'' => ∃ m', m' < m ∧ inv m' ρ'' }) ∧ (b = false → D.nx ρ'))
    (hp : PassesOwn (model X.prog X.w) X.A X.env X.xe) : S1 X (.While c body [] pos) ρ D := fun B W σ H hW s => by
  refine ws_of (ps_while hp pt_w pb_w) ⟨fun m σ' H' => ∃ ρ', StD X.K B W ρ' σ' H' ∧ inv m ρ', ⟨m0, ρ, s, i0⟩, fun m σ' H' ⟨ρ', ⟨F, s'⟩, iv⟩ => ?_⟩
  refine wt_mono (step m ρ' iv _ σ' H' (s'.mut hW) s'.env) fun b H1 ⟨e1, q1, q2⟩ => ?_
  cases b with
  | true =>
    refine iteT ⟨fun σ'' H'' => ∃ m', m' < m ∧ ∃ ρ'', StD X.K B W ρ'' σ'' H'' ∧ inv m' ρ'', fun σ'' H'' ⟨m', a, ρ'', b, c⟩ => ⟨m', a, ρ'', b, c⟩, ?_⟩
    exact wb_mono (q1 rfl B W σ' H1 hW ⟨F, s'.mono e1⟩) (fun _ _ ⟨ρ'', a, m', b, c⟩ => ⟨m', b, ρ'', a, c⟩) (fun _ _ z => z) (fun _ _ z => z) (fun _ _ ⟨ρ'', a, m', b, c⟩ => ⟨m', b, ρ'', a, c⟩)
  | false => exact iteF ⟨ρ', ⟨F, s'.mono e1⟩, q2 rfl⟩
end
end DL
namespace DL
open PySem PySem.Spec PyProof.Rows L2

/-! ### a def keeps its promise -/
theorem rps_get2 {K : PySem.W.Frag} {H : Hp} {ds : List PyData} {vs : List V} (h : RpAll K H vs ds) {i : Nat} {d : PyData} (e : ds[i]? = some d) : ∃ v, vs[i]? = some v ∧ Rp K H v d := dps_get h e
theorem st_start {K : PySem.W.Frag} {H : Hp} {N : List Str} {vs : List V} {ds : List PyData} {n : Nat} (h : RpAll K H vs ds) (hn : ds.length + n ≤ N.length) : StF K H (fun _ => False) (ds.map .fz ++ List.replicate n .un) (L2.start N vs) H fun _ => [] := by
  have hl := dps_len h
  refine ⟨Same.refl _, ?_, fun _ => .nil, (fun i j a z => by cases z), (fun i a z => by cases z), fun i e he => ?_, fun _ _ => rfl⟩
  · unfold L2.start
    rw [List.length_append, List.length_map, List.length_replicate, List.length_append, List.length_map, List.length_replicate]
    omega
  · by_cases hi : i < ds.length
    · rw [List.getElem?_append_left (by rw [List.length_map]; exact hi), List.getElem?_map, List.getElem?_eq_getElem hi] at he
      cases he
      obtain ⟨v, hv, hp⟩ := dps_get h (List.getElem?_eq_getElem hi)
      refine ⟨rfl, v, ?_, dp_sub (fun b o z => hide_some.mpr ⟨fun q => ?_, z⟩) _ _ hp⟩
      · unfold L2.start
        rw [List.getElem?_append_left (by rw [List.length_map]; omega), List.getElem?_map, hv]
        rfl
      · rcases q with q | ⟨k, q⟩
        · exact q
        · cases q
    · rw [List.getElem?_append_right (by rw [List.length_map]; omega)] at he
      have e' : e = .un := by
        rw [List.getElem?_replicate] at he
        split at he
        · exact (Option.some.inj he).symm
        · cases he
      subst e'
      rfl
section
variable {P0 : Program} {w : World} {K : PySem.W.Frag} {mg : Str → Option Value} {base : Heap}
def bodyE (d : PyData) : DEnds where
  nx := fun _ => d = .none
  rt := fun o => o = .ow d ∨ (o = .fz d ∧ lf d = true)
theorem fn_okD {x qual : Str} {st : Stmt} {f : Addr} {fd : FuncData} {N ps : List Str} {k : Nat} {P : List PyData → PyData → Prop} (F : Fun K x qual st f fd) (S : FnScope N ps (defScope st)) (har : ∀ ds d, P ds d → ds.length = ps.length)
    (body : ∀ (cdv : Value) (A : Around) (outer : List Env) (s : Shared) (H : Hp) (E : XK), Room k (A.deeper (envOfC qual (defScope st) s.heap.objs.size f cdv)) → ∀ ds d, P ds d →
      SD (cxOf CX0 P0 w K mg base N qual (defScope st) f cdv A outer s H E).nox (defBody st) (ds.map .fz ++ List.replicate (N.length - ps.length) .un) (bodyE d)) : FnOk P0 w K mg base CX0 (k + 1) f fd ps (spD K P) := by
  refine F.ok S (fun vs H Q E ⟨ds, d, h1, h2, _⟩ => by rw [dps_len h1, har _ _ h2]) (fun cdv A outer s H vs Q E hr ⟨ds, d, h1, h2, h3⟩ => ?_)
  refine ⟨_, pb_w, ?_⟩
  have hN : ps.length ≤ N.length := by
    have e := S.pre
    rw [← e, List.length_take]
    exact Nat.min_le_right _ _
  have b := body cdv A outer s H E hr ds d h2 H (fun _ => False) (L2.start N vs) H (fun a z => z.elim) ⟨_, st_start h1 (by rw [har _ _ h2]; omega)⟩
  have fin : ∀ v H', (Same H H' ∧ ∃ o, RetR K H (fun _ => False) H' v o ∧ (bodyE d).rt o) → Q v H' := fun v H' ⟨e, o, r, q⟩ => by
    rcases q with q | ⟨q, hl⟩
    · subst q
      obtain ⟨T, a, b, c⟩ := r
      exact h3 v H' T e a b c
    · subst q
      exact h3 v H' [] e (.flt (dp_sub hide_sub _ _ r) hl) .nil (fun a z => by cases z)
  exact wb_mono b (fun σ' H' ⟨ρ', ⟨F', s'⟩, q⟩ => fin .non H' ⟨s'.same, .fz .none, Rp.non, .inr ⟨by rw [show d = .none from q], by rw [show d = .none from q]; rfl⟩⟩) fin (fun _ _ ⟨_, _, q⟩ => False.elim q) (fun _ _ ⟨_, _, q⟩ => False.elim q)
/-! ### the law -/
def spLawD (K : PySem.W.Frag) (n : Nat) : Sp := fun vs H Q _ => ∃ (a : Addr) (ns : List Int), vs = [.ref a] ∧ SqL K H a (ns.map V.int) ∧ ns.length ≤ n ∧ ∀ H', Q (.bl true) H'
def lawE : DEnds where
  nx := fun _ => False
  rt := fun o => o = .fz (.bool true)
theorem law_okD {x qual : Str} {st : Stmt} {f : Addr} {fd : FuncData} {N : List Str} {k n : Nat} (F : Fun K x qual st f fd) (S : FnScope N ["script"] (defScope st))
    (body : ∀ (cdv : Value) (A : Around) (outer : List Env) (s : Shared) (H : Hp) (E : XK), Room k (A.deeper (envOfC qual (defScope st) s.heap.objs.size f cdv)) → ∀ ns : List Int, ns.length ≤ n →
      SD (cxOf CX0 P0 w K mg base N qual (defScope st) f cdv A outer s H E).nox (defBody st) (.fz (.list (ns.map .int)) :: List.replicate (N.length - 1) .un) lawE) : FnOk P0 w K mg base CX0 (k + 1) f fd ["script"] (spLawD K n) := by
  refine F.ok S (fun vs H Q E ⟨a, ns, h1, _⟩ => by rw [h1]; rfl) (fun cdv A outer s H vs Q E hr ⟨a, ns, h1, h2, h3, h4⟩ => ?_)
  subst h1
  refine ⟨_, pb_w, ?_⟩
  have hN : 1 ≤ N.length := by
    have e := S.pre
    have : (N.take 1).length = 1 := by rw [show N.take 1 = (["script"] : List Str) from e]; rfl
    rw [List.length_take] at this
    omega
  have hp : RpAll K H [.ref a] [.list (ns.map .int)] := .cons (.lst h2 (dps_ints ns)) .nil
  have b := body cdv A outer s H E hr ns h3 H (fun _ => False) (L2.start N [.ref a]) H (fun a z => z.elim) ⟨_, st_start (n := N.length - 1) hp (by show 1 + (N.length - 1) ≤ N.length; omega)⟩
  refine wb_mono b (fun _ _ ⟨_, _, q⟩ => False.elim q) (fun v H' ⟨e, o, r, q⟩ => ?_) (fun _ _ ⟨_, _, q⟩ => False.elim q) (fun _ _ ⟨_, _, q⟩ => False.elim q)
  have q' : o = .fz (.bool true) := q
  subst q'
  cases r
  exact h4 H'
end
/-! ### a def ready to be called -/
theorem callD_mk {X : Cx} {x : Str} {P : List PyData → PyData → Prop} {k : Nat} {f : Addr} {fd : FuncData} {ps : List Str} (G : FnOk X.prog X.w X.K X.mg X.base CX0 k f fd ps (spD X.K P)) (hr : Room k X.A) (hm : X.mg x = some (.ref f)) (hk : PySem.W.keepIn X.K (.ref f) = true) (hb : Binds X.K fd ps []) : CallD X x P :=
  ⟨⟨_, k, f, fd, ps, [], [], G, hr, hm, hk, hb, .nil, fun _ => .nil, fun Y _ _ => pass0⟩⟩

/-! ### a part of what is owned is changed -/
def modAt : PyData → List Nat → PyData → PyData
  | _, [], e => e
  | .list xs, i :: p, e => match xs[i]? with
    | some x => .list (xs.set i (modAt x p e))
    | none => .list xs
  | .tuple xs, i :: p, e => match xs[i]? with
    | some x => .tuple (xs.set i (modAt x p e))
    | none => .tuple xs
  | d, _ :: _, _ => d
theorem at_lf {H : Hp} {v : V} {d : PyData} {p : List Nat} {u : V} {d' : PyData} (h : AtV H v d p u d') (l : lf d' = false) : lf d = false := by
  cases h with
  | nil => exact l
  | lst _ _ _ _ => rfl
  | tup h0 _ _ _ _ => exact h0
/-- what stands at a place of owned items; and put otherwise there -/
theorem owns_zip {K : PySem.W.Frag} {H : Hp} : ∀ {ds : List PyData} {vs : List V} {S : List Addr} {i : Nat} {w : V} {e : PyData}, OwnAll K H vs ds S → vs[i]? = some w → ds[i]? = some e →
    ∃ Si R, OwnR K H w e Si ∧ S.Perm (Si ++ R) ∧ ∀ (H2 : Hp) (e' : PyData) (Si' : List Addr), Tups H H2 → (∀ a xs, H a = some (.tup xs) → H2 a = some (.tup xs)) → (∀ b ∈ R, ∀ o, H b = some o → H2 b = some o) → OwnR K H2 w e' Si' → ∃ S2, S2.Perm (Si' ++ R) ∧ OwnAll K H2 vs (ds.set i e') S2
  | _, _, _, _, _, _, .nil, h, _ => by simp at h
  | _, _, _, 0, _, _, .cons (S := S1) (T := T1) h1 h2, h, g => by
    rw [List.getElem?_cons_zero] at h g
    cases h
    cases g
    exact ⟨S1, T1, h1, List.Perm.refl _, fun H2 e' Si' t t2 k o => ⟨Si' ++ T1, List.Perm.refl _, .cons o (owns_mono t t2 _ _ _ h2 k)⟩⟩
  | _, _, _, i + 1, _, _, .cons (S := S1) (T := T1) h1 h2, h, g => by
    rw [List.getElem?_cons_succ] at h g
    obtain ⟨Si, R, a, b, c⟩ := owns_zip h2 h g
    have p1 : ∀ T : List Addr, (S1 ++ (T ++ R)).Perm (T ++ (S1 ++ R)) := fun T => by
      rw [← List.append_assoc, ← List.append_assoc]
      exact List.Perm.append_right _ List.perm_append_comm
    refine ⟨Si, S1 ++ R, a, (List.Perm.append_left S1 b).trans (p1 Si), fun H2 e' Si' t t2 k o => ?_⟩
    obtain ⟨S2, q1, q2⟩ := c H2 e' Si' t t2 (fun x m => k x (List.mem_append_right _ m)) o
    exact ⟨S1 ++ S2, (List.Perm.append_left S1 q1).trans (p1 Si'), .cons (own_mono t t2 _ _ _ h1 fun x m => k x (List.mem_append_left _ m)) q2⟩
theorem own_zip {K : PySem.W.Frag} {H : Hp} {v : V} {d : PyData} {p : List Nat} {a : Addr} {ds : List PyData} {u : V} {d' : PyData} (h : AtV H v d p u d') : u = .ref a → d' = .list ds → ∀ {S : List Addr}, OwnR K H v d S →
    ∃ vs Sa R, H a = some (.lst vs) ∧ OwnAll K H vs ds Sa ∧ S.Perm (a :: (Sa ++ R)) ∧ ∀ (H2 : Hp) (vs' : List V) (ds' : List PyData) (Sa' : List Addr), Tups H H2 → (∀ b xs, H b = some (.tup xs) → H2 b = some (.tup xs)) → (∀ b ∈ R, ∀ o, H b = some o → H2 b = some o) →
      H2 a = some (.lst vs') → OwnAll K H2 vs' ds' Sa' → ∃ S2, S2.Perm (a :: (Sa' ++ R)) ∧ OwnR K H2 v (modAt d p (.list ds')) S2 ∧ AtV H2 v (modAt d p (.list ds')) p (.ref a) (.list ds') := by
  induction h with
  | nil =>
    intro e1 e2 S o
    subst e1 e2
    obtain ⟨b, xs, T, e, h1, h2, rfl⟩ := own_list o
    cases e
    refine ⟨xs, T, [], h1, h2, by rw [List.append_nil], fun H2 vs' ds' Sa' t t2 k ha ho => ⟨a :: Sa', by rw [List.append_nil], .lst ha ho, .nil⟩⟩
  | @lst b xs es i w e p u d' h1 h2 h3 _ ih =>
    intro e1 e2 S o
    obtain ⟨b', xs', T, eb, g1, g2, rfl⟩ := own_list o
    cases eb
    rw [h1] at g1
    cases g1
    obtain ⟨Si, R1, o1, pm1, put⟩ := owns_zip g2 h2 h3
    obtain ⟨vs, Sa, R2, a1, a2, a3, a4⟩ := ih e1 e2 o1
    refine ⟨vs, Sa, b :: (R2 ++ R1), a1, a2, ?_, fun H2 vs' ds' Sa' t t2 k ha ho => ?_⟩
    · have q : T.Perm (a :: (Sa ++ (R2 ++ R1))) := pm1.trans (by
        have := List.Perm.append_right R1 a3
        simpa [List.append_assoc] using this)
      have q2 : (b :: T).Perm (b :: (a :: Sa) ++ (R2 ++ R1)) := by simpa using List.Perm.cons b q
      refine q2.trans ?_
      have : ((b :: (a :: Sa)) ++ (R2 ++ R1)).Perm ((a :: Sa) ++ (b :: (R2 ++ R1))) := by
        simpa using (List.perm_middle (a := b) (l₁ := a :: Sa) (l₂ := R2 ++ R1)).symm
      simpa using this
    · obtain ⟨S2, q1, q2, q9⟩ := a4 H2 vs' ds' Sa' t t2 (fun x m => k x (by simp [m])) ha ho
      obtain ⟨S3, q3, q4⟩ := put H2 _ S2 t t2 (fun x m => k x (by simp [m])) q2
      refine ⟨b :: S3, ?_, ?_⟩
      · have q5 : S3.Perm (a :: (Sa' ++ (R2 ++ R1))) := q3.trans (by
          have := List.Perm.append_right R1 q1
          simpa [List.append_assoc] using this)
        have q6 : (b :: S3).Perm ((b :: (a :: Sa')) ++ (R2 ++ R1)) := by simpa using List.Perm.cons b q5
        refine q6.trans ?_
        have : ((b :: (a :: Sa')) ++ (R2 ++ R1)).Perm ((a :: Sa') ++ (b :: (R2 ++ R1))) := by
          simpa using (List.perm_middle (a := b) (l₁ := a :: Sa') (l₂ := R2 ++ R1)).symm
        simpa using this
      · have e5 : modAt (.list es) (i :: p) (.list ds') = .list (es.set i (modAt e p (.list ds'))) := by
          show (match es[i]? with
            | some x => PyData.list (es.set i (modAt x p (.list ds')))
            | none => .list es) = _
          rw [h3]
        rw [e5]
        have hi : i < es.length := (List.getElem?_eq_some_iff.mp h3).1
        exact ⟨.lst (k b (by simp) _ h1) q4, .lst (k b (by simp) _ h1) h2 (by rw [List.getElem?_set_self hi]) q9⟩
  | @tup b xs es i w e p u d' h0 h1 h2 h3 _ ih =>
    intro e1 e2 S o
    obtain ⟨b', xs', eb, g1, g2⟩ := own_tuple o h0
    cases eb
    rw [h1] at g1
    cases g1
    obtain ⟨Si, R1, o1, pm1, put⟩ := owns_zip g2 h2 h3
    obtain ⟨vs, Sa, R2, a1, a2, a3, a4⟩ := ih e1 e2 o1
    refine ⟨vs, Sa, R2 ++ R1, a1, a2, ?_, fun H2 vs' ds' Sa' t t2 k ha ho => ?_⟩
    · exact pm1.trans (by
        have := List.Perm.append_right R1 a3
        simpa [List.append_assoc] using this)
    · obtain ⟨S2, q1, q2, q9⟩ := a4 H2 vs' ds' Sa' t t2 (fun x m => k x (by simp [m])) ha ho
      obtain ⟨S3, q3, q4⟩ := put H2 _ S2 t t2 (fun x m => k x (by simp [m])) q2
      refine ⟨S3, q3.trans (by
          have := List.Perm.append_right R1 q1
          simpa [List.append_assoc] using this), ?_⟩
      have e5 : modAt (.tuple es) (i :: p) (.list ds') = .tuple (es.set i (modAt e p (.list ds'))) := by
        show (match es[i]? with
          | some x => PyData.tuple (es.set i (modAt x p (.list ds')))
          | none => .tuple es) = _
        rw [h3]
      rw [e5]
      have hi : i < es.length := (List.getElem?_eq_some_iff.mp h3).1
      have hs : (es.set i (modAt e p (.list ds')))[i]? = some (modAt e p (.list ds')) := by rw [List.getElem?_set_self hi]
      have hl : lf (.tuple (es.set i (modAt e p (.list ds')))) = false := by
        cases z : lf (.tuple (es.set i (modAt e p (.list ds')))) with
        | false => rfl
        | true =>
          rw [lf] at z
          have := at_lf q9 rfl
          rw [lfs_mem z hs] at this
          cases this
      exact ⟨.tup (t2 b _ h1) q4, .tup hl (t2 b _ h1) h2 hs q9⟩
end DL
namespace DL
open PySem PySem.Spec PyProof.Rows L2

def kilP (j : Nat) (p : List Nat) : DE → DE
  | .al k q => if k = j then (if p.length < q.length then .un else .al k q) else .al k q
  | e => e
def modE (ρ : DEnv) (j : Nat) (p : List Nat) (e : PyData) : DEnv := match ρ[j]? with
  | some (.ow d) => (ρ.map (kilP j p)).set j (.ow (modAt d p e))
  | _ => ρ
theorem at_fun {H : Hp} {v : V} {d : PyData} {p : List Nat} {u u' : V} {d1 d2 : PyData} (h : AtV H v d p u d1) (g : AtV H v d p u' d2) : u = u' ∧ d1 = d2 := by
  induction h with
  | nil => cases g; exact ⟨rfl, rfl⟩
  | lst h1 h2 h3 _ ih =>
    cases g with
    | lst g1 g2 g3 g4 =>
      rw [h1] at g1
      cases g1
      rw [h2] at g2
      cases g2
      rw [h3] at g3
      cases g3
      exact ih g4
  | tup h0 h1 h2 h3 _ ih =>
    cases g with
    | tup g0 g1 g2 g3 g4 =>
      rw [h1] at g1
      cases g1
      rw [h2] at g2
      cases g2
      rw [h3] at g3
      cases g3
      exact ih g4
theorem at_frame {K : PySem.W.Frag} {H H2 : Hp} {v : V} {d : PyData} {p : List Nat} {u : V} {d' : PyData} (h : AtV H v d p u d') : ∀ {S : List Addr}, OwnR K H v d S → (∀ b xs, H b = some (.tup xs) → H2 b = some (.tup xs)) → (∀ b ∈ S, ∀ o, H b = some o → H2 b = some o) → AtV H2 v d p u d' := by
  induction h with
  | nil => intro S o t k; exact .nil
  | lst h1 h2 h3 _ ih =>
    intro S o t k
    obtain ⟨b, xs, T, e, g1, g2, rfl⟩ := own_list o
    cases e
    rw [h1] at g1
    cases g1
    obtain ⟨S', o', m⟩ := owns_get g2 h2 h3
    exact .lst (k _ List.mem_cons_self _ h1) h2 h3 (ih o' t fun b hb => k b (List.mem_cons_of_mem _ (m b hb)))
  | tup h0 h1 h2 h3 _ ih =>
    intro S o t k
    obtain ⟨b, xs, e, g1, g2⟩ := own_tuple o h0
    cases e
    rw [h1] at g1
    cases g1
    obtain ⟨S', o', m⟩ := owns_get g2 h2 h3
    exact .tup h0 (t _ _ h1) h2 h3 (ih o' t fun b hb => k b (m b hb))
mutual
theorem own_none {K : PySem.W.Frag} {H : Hp} : ∀ (d : PyData) (v : V) (S : List Addr), OwnR K H v d S → lf d = true → S = []
  | _, _, _, .flt _ _, _ => rfl
  | .list _, _, _, .lst _ _, l => by cases l
  | .tuple ds, _, _, .tup _ ha, l => owns_none ds _ _ ha l
theorem owns_none {K : PySem.W.Frag} {H : Hp} : ∀ (ds : List PyData) (vs : List V) (S : List Addr), OwnAll K H vs ds S → lfs ds = true → S = []
  | [], _, _, .nil, _ => rfl
  | d :: ds, _, _, .cons h1 h2, l => by
    have l' : (lf d && lfs ds) = true := l
    rw [Bool.and_eq_true] at l'
    rw [own_none d _ _ h1 l'.1, owns_none ds _ _ h2 l'.2]
    rfl
end
mutual
/-- what is owned is the same, however it is shown -/
theorem own_fun {K : PySem.W.Frag} {H : Hp} : ∀ (d : PyData) (v : V) (S T : List Addr), OwnR K H v d S → OwnR K H v d T → S = T
  | _, _, _, _, .flt _ l, g => (own_none _ _ _ g l).symm
  | .list _, _, _, _, .lst h ha, g => by
    cases g with
    | flt _ l => cases l
    | lst h' hb =>
      rw [h] at h'
      cases h'
      rw [owns_fun _ _ _ _ ha hb]
  | .tuple ds, _, _, _, .tup h ha, g => by
    cases g with
    | flt h' l => exact owns_none ds _ _ ha l
    | tup h' hb =>
      rw [h] at h'
      cases h'
      exact owns_fun _ _ _ _ ha hb
theorem owns_fun {K : PySem.W.Frag} {H : Hp} : ∀ (ds : List PyData) (vs : List V) (S T : List Addr), OwnAll K H vs ds S → OwnAll K H vs ds T → S = T
  | [], _, _, _, .nil, .nil => rfl
  | _ :: _, _, _, _, .cons h1 h2, .cons g1 g2 => by rw [own_fun _ _ _ _ h1 g1, owns_fun _ _ _ _ h2 g2]
end
theorem owns_two {K : PySem.W.Frag} {H : Hp} : ∀ {ds : List PyData} {vs : List V} {S : List Addr} {i k : Nat} {w w' : V} {e e' : PyData}, OwnAll K H vs ds S → vs[i]? = some w → ds[i]? = some e → vs[k]? = some w' → ds[k]? = some e' → i ≠ k →
    ∃ Si Sk R, OwnR K H w e Si ∧ OwnR K H w' e' Sk ∧ S.Perm (Si ++ (Sk ++ R))
  | _, _, _, _, _, _, _, _, _, .nil, h, _, _, _, _ => by simp at h
  | _, _, _, 0, 0, _, _, _, _, .cons _ _, _, _, _, _, n => absurd rfl n
  | _, _, _, 0, k + 1, _, _, _, _, .cons (S := S1) (T := T1) h1 h2, a1, a2, a3, a4, _ => by
    rw [List.getElem?_cons_zero] at a1 a2
    cases a1
    cases a2
    rw [List.getElem?_cons_succ] at a3 a4
    obtain ⟨Sk, R, b1, b2, _⟩ := owns_zip h2 a3 a4
    exact ⟨S1, Sk, R, h1, b1, List.Perm.append_left S1 b2⟩
  | _, _, _, i + 1, 0, _, _, _, _, .cons (S := S1) (T := T1) h1 h2, a1, a2, a3, a4, _ => by
    rw [List.getElem?_cons_zero] at a3 a4
    cases a3
    cases a4
    rw [List.getElem?_cons_succ] at a1 a2
    obtain ⟨Si, R, b1, b2, _⟩ := owns_zip h2 a1 a2
    refine ⟨Si, S1, R, b1, h1, (List.Perm.append_left S1 b2).trans ?_⟩
    rw [← List.append_assoc, ← List.append_assoc]
    exact List.Perm.append_right _ List.perm_append_comm
  | _, _, _, i + 1, k + 1, _, _, _, _, .cons (S := S1) (T := T1) h1 h2, a1, a2, a3, a4, n => by
    rw [List.getElem?_cons_succ] at a1 a2 a3 a4
    obtain ⟨Si, Sk, R, b1, b2, b3⟩ := owns_two h2 a1 a2 a3 a4 (fun z => n (by rw [z]))
    refine ⟨Si, Sk, S1 ++ R, b1, b2, (List.Perm.append_left S1 b3).trans ?_⟩
    have e : Si ++ (Sk ++ (S1 ++ R)) = (Si ++ Sk) ++ (S1 ++ R) := by rw [List.append_assoc]
    have e2 : S1 ++ (Si ++ (Sk ++ R)) = S1 ++ ((Si ++ Sk) ++ R) := by rw [List.append_assoc]
    rw [e, e2]
    generalize Si ++ Sk = Z
    rw [← List.append_assoc, ← List.append_assoc]
    exact List.Perm.append_right _ List.perm_append_comm
/-- places beside a changed list, or above it, stay places -/
theorem at_mod {K : PySem.W.Frag} {H H2 : Hp} {a : Addr} {ds ds' : List PyData} {S0 : List Addr} {v : V} {d : PyData} {p : List Nat} {u : V} {d' : PyData} (h : AtV H v d p u d') (hS0 : OwnR K H (.ref a) (.list ds) S0) (t2 : ∀ b xs, H b = some (.tup xs) → H2 b = some (.tup xs)) :
    u = .ref a → d' = .list ds → ∀ {S : List Addr}, OwnR K H v d S → S.Nodup → (∀ x ∈ S, x ∉ S0 → ∀ o, H x = some o → H2 x = some o) → AtV H2 v (modAt d p (.list ds')) p (.ref a) (.list ds') → ∀ {q : List Nat} {u' : V} {c : PyData}, q.length ≤ p.length → AtV H v d q u' c → ∃ c', AtV H2 v (modAt d p (.list ds')) q u' c' := by
  induction h with
  | nil =>
    intro e1 e2 S o nS k hat q u' c hq g
    cases q with
    | nil => cases g; exact ⟨_, .nil⟩
    | cons x q => rw [List.length_cons, List.length_nil] at hq; omega
  | @lst b vs es i w e p u d' h1 h2 h3 h4 ih =>
    intro e1 e2 S o nS k hat q u' c hq g
    cases q with
    | nil => cases g; exact ⟨_, .nil⟩
    | cons m q =>
      cases g with
      | @lst _ vs' _ _ w' e' _ _ _ g1 g2 g3 g4 =>
        rw [h1] at g1
        cases g1
        obtain ⟨b', xs, T, eb, y1, y2, rfl⟩ := own_list o
        cases eb
        rw [h1] at y1
        cases y1
        obtain ⟨nb, nT⟩ := List.nodup_cons.mp nS
        obtain ⟨Si, oi, si⟩ := owns_getS y2 h2 h3
        obtain ⟨S', o', s'⟩ := own_atS h4 oi
        have e0 : S' = S0 := by
          rw [e1, e2] at o'
          exact own_fun _ _ _ _ o' hS0
        subst e0
        have hb2 : H2 b = some (.lst vs) := k b List.mem_cons_self (fun z => nb (si.subset (s'.subset z))) _ h1
        have e5 : modAt (.list es) (i :: p) (.list ds') = .list (es.set i (modAt e p (.list ds'))) := by
          show (match es[i]? with
            | some x => PyData.list (es.set i (modAt x p (.list ds')))
            | none => .list es) = _
          rw [h3]
        rw [e5] at hat ⊢
        have hi : i < es.length := (List.getElem?_eq_some_iff.mp h3).1
        rw [List.length_cons, List.length_cons] at hq
        cases hat with
        | lst z1 z2 z3 z4 =>
          rw [hb2] at z1
          cases z1
          rw [h2] at z2
          cases z2
          rw [List.getElem?_set_self hi] at z3
          cases z3
          by_cases hm : i = m
          · subst hm
            rw [h2] at g2
            cases g2
            rw [h3] at g3
            cases g3
            obtain ⟨c', hc⟩ := ih e1 e2 oi (nT.sublist si) (fun x hx => k x (List.mem_cons_of_mem _ (si.subset hx))) z4 (Nat.le_of_succ_le_succ hq) g4
            exact ⟨c', .lst hb2 h2 (by rw [List.getElem?_set_self hi]) hc⟩
          · obtain ⟨Si', Sm, R, x1, x2, x3⟩ := owns_two y2 h2 h3 g2 g3 hm
            cases own_fun _ _ _ _ x1 oi
            have nP := x3.nodup_iff.mp nT
            refine ⟨c, .lst hb2 g2 (by rw [List.getElem?_set_ne hm]; exact g3) (at_frame g4 x2 t2 fun x hx => k x (List.mem_cons_of_mem _ (x3.mem_iff.mpr (by simp [hx]))) fun z => ?_)⟩
            exact (List.nodup_append.mp nP).2.2 x (s'.subset z) x (List.mem_append_left _ hx) rfl
  | @tup b vs es i w e p u d' h0 h1 h2 h3 h4 ih =>
    intro e1 e2 S o nS k hat q u' c hq g
    cases q with
    | nil => cases g; exact ⟨_, .nil⟩
    | cons m q =>
      cases g with
      | @tup _ vs' _ _ w' e' _ _ _ g0 g1 g2 g3 g4 =>
        rw [h1] at g1
        cases g1
        obtain ⟨b', xs, eb, y1, y2⟩ := own_tuple o h0
        cases eb
        rw [h1] at y1
        cases y1
        obtain ⟨Si, oi, si⟩ := owns_getS y2 h2 h3
        obtain ⟨S', o', s'⟩ := own_atS h4 oi
        have e0 : S' = S0 := by
          rw [e1, e2] at o'
          exact own_fun _ _ _ _ o' hS0
        subst e0
        have hb2 : H2 b = some (.tup vs) := t2 _ _ h1
        have e5 : modAt (.tuple es) (i :: p) (.list ds') = .tuple (es.set i (modAt e p (.list ds'))) := by
          show (match es[i]? with
            | some x => PyData.tuple (es.set i (modAt x p (.list ds')))
            | none => .tuple es) = _
          rw [h3]
        rw [e5] at hat ⊢
        have hi : i < es.length := (List.getElem?_eq_some_iff.mp h3).1
        rw [List.length_cons, List.length_cons] at hq
        cases hat with
        | tup z0 z1 z2 z3 z4 =>
          rw [hb2] at z1
          cases z1
          rw [h2] at z2
          cases z2
          rw [List.getElem?_set_self hi] at z3
          cases z3
          by_cases hm : i = m
          · subst hm
            rw [h2] at g2
            cases g2
            rw [h3] at g3
            cases g3
            obtain ⟨c', hc⟩ := ih e1 e2 oi (nS.sublist si) (fun x hx => k x (si.subset hx)) z4 (Nat.le_of_succ_le_succ hq) g4
            exact ⟨c', .tup z0 hb2 h2 (by rw [List.getElem?_set_self hi]) hc⟩
          · obtain ⟨Si', Sm, R, x1, x2, x3⟩ := owns_two y2 h2 h3 g2 g3 hm
            cases own_fun _ _ _ _ x1 oi
            have nP := x3.nodup_iff.mp nS
            refine ⟨c, .tup z0 hb2 g2 (by rw [List.getElem?_set_ne hm]; exact g3) (at_frame g4 x2 t2 fun x hx => k x (x3.mem_iff.mpr (by simp [hx])) fun z => ?_)⟩
            exact (List.nodup_append.mp nP).2.2 x (s'.subset z) x (List.mem_append_left _ hx) rfl
section
variable {K : PySem.W.Frag} {B : Hp} {W : Addr → Prop} {ρ : DEnv} {σ : L2.St} {H H1 : Hp} {F : Nat → List Addr}
/-- the list at a, a part of what slot j owns, takes other items: those it had, and what is new -/
theorem st_modMF {M : List Addr} {j : Nat} {p : List Nat} {w : V} {d : PyData} {a : Addr} {ds : List PyData} (s : StF K B (fun a => W a ∨ a ∈ M) ρ σ H F) (hM : ∀ x ∈ M, B x = none ∧ (∀ k, x ∉ F k) ∧ ∃ u, H x = some u ∧ Mut (some u)) (e1 : Same H H1) (hj : ρ[j]? = some (.ow d)) (hσ : σ[j]? = some (some w)) (hat : AtV H1 w d p (.ref a) (.list ds)) :
    ∃ vs Sa, H1 a = some (.lst vs) ∧ OwnAll K H1 vs ds Sa ∧ Sa.Nodup ∧ (∀ x ∈ Sa, x ∈ F j) ∧ ∀ (vs' : List V) (ds' : List PyData) (Sa' : List Addr), OwnAll K H1 vs' ds' Sa' → Sa'.Nodup → (∀ x ∈ Sa', x ∈ Sa ∨ H x = none ∨ x ∈ M) → ∃ F', StF K B W (modE ρ j p (.list ds')) σ (upd H1 a (.lst vs')) F' ∧ ∀ k x, x ∈ F' k → (x ∈ F k ∧ x ∉ Sa) ∨ x ∈ Sa' := by
  have s1 := s.mono e1
  obtain ⟨w', hw', how⟩ := s1.ent j _ hj
  rw [hσ] at hw'
  cases hw'
  obtain ⟨vs, Sa, R, ha, hO, hperm, put⟩ := own_zip hat rfl rfl how
  have nF := s.nd j
  have nP : (a :: (Sa ++ R)).Nodup := hperm.nodup_iff.mp nF
  have nSaR := (List.nodup_cons.mp nP).2
  have aNot := (List.nodup_cons.mp nP).1
  have inF : ∀ x, x ∈ a :: (Sa ++ R) → x ∈ F j := fun x m => hperm.mem_iff.mpr m
  refine ⟨vs, Sa, ha, hO, (List.nodup_append.mp nSaR).1, fun x hx => inF x (by simp [hx]), fun vs' ds' Sa' hO' hn' hsub => ?_⟩
  have haF : a ∈ F j := inF a List.mem_cons_self
  have mutA : Mut (H1 a) := by rw [ha]; trivial
  let H2 : Hp := upd H1 a (.lst vs')
  have ne2 : ∀ x, x ≠ a → H2 x = H1 x := fun x n => upd_ne n
  have t : Tups H1 H2 := upd_tups mutA
  have t2 : ∀ b xs, H1 b = some (.tup xs) → H2 b = some (.tup xs) := fun b xs e => by
    have n : b ≠ a := fun z => by rw [z, ha] at e; cases e
    rw [ne2 b n]; exact e
  have newNot : ∀ x, (H x = none ∨ x ∈ M) → x ≠ a ∧ x ∉ Sa ∧ x ∉ R ∧ ∀ k, x ∉ F k := fun x hx => by
    have q : ∀ k, x ∉ F k := fun k m => by
      rcases hx with hx | hx
      · obtain ⟨xs, e, _⟩ := s.lstAt m
        rw [hx] at e
        cases e
      · exact (hM x hx).2.1 k m
    exact ⟨fun z => q j (by rw [z]; exact haF), fun m => q j (inF x (by simp [m])), fun m => q j (inF x (by simp [m])), q⟩
  have aSa' : a ∉ Sa' := fun m => by
    rcases hsub a m with z | z
    · exact aNot (List.mem_append_left _ z)
    · exact (newNot a z).1 rfl
  have hO2 : OwnAll K H2 vs' ds' Sa' := owns_mono t t2 _ _ _ hO' fun x m o e => by
    have n : x ≠ a := fun z => by subst z; exact aSa' m
    rw [ne2 x n]; exact e
  obtain ⟨S2, hp2, how2, hat2⟩ := put H2 vs' ds' Sa' t t2 (fun b m o e => by
    have n : b ≠ a := fun z => by subst z; exact aNot (List.mem_append_right _ m)
    rw [ne2 b n]; exact e) upd_same hO2
  have memS2 : ∀ x, x ∈ S2 → x ∈ F j ∨ (H x = none ∨ x ∈ M) := fun x m => by
    have m' := hp2.mem_iff.mp m
    rcases List.mem_cons.mp m' with z | z
    · rw [z]; exact .inl haF
    · rcases List.mem_append.mp z with z | z
      · rcases hsub x z with y | y
        · exact .inl (inF x (by simp [y]))
        · exact .inr y
      · exact .inl (inF x (by simp [z]))
  have nS2 : S2.Nodup := by
    refine hp2.nodup_iff.mpr (List.nodup_cons.mpr ⟨fun m => ?_, List.nodup_append.mpr ⟨hn', (List.nodup_append.mp nSaR).2.1, fun x hx y hy z => ?_⟩⟩)
    · rcases List.mem_append.mp m with z | z
      · exact aSa' z
      · exact aNot (List.mem_append_right _ z)
    · subst z
      rcases hsub x hx with y | y
      · exact (List.nodup_append.mp nSaR).2.2 x y x hy rfl
      · exact (newNot x y).2.2.1 hy
  have jl : j < ρ.length := (List.getElem?_eq_some_iff.mp hj).1
  let F2 := setF F j S2
  have e5 : modE ρ j p (.list ds') = (ρ.map (kilP j p)).set j (.ow (modAt d p (.list ds'))) := by
    unfold modE
    rw [hj]
  have gj : (modE ρ j p (.list ds'))[j]? = some (.ow (modAt d p (.list ds'))) := by
    rw [e5, List.getElem?_set_self (by rw [List.length_map]; exact jl)]
  have gk : ∀ k, k ≠ j → (modE ρ j p (.list ds'))[k]? = (ρ[k]?).map (kilP j p) := fun k n => by
    rw [e5, List.getElem?_set_ne (Ne.symm n), List.getElem?_map]
  have hideOk : Same (Hide H (UF (fun a => W a ∨ a ∈ M) F)) (Hide H2 (UF W F2)) := fun x o e => by
    obtain ⟨n, e⟩ := hide_some.mp e
    have n1 : x ≠ a := fun z => by subst z; exact n (.inr ⟨j, haF⟩)
    refine hide_some.mpr ⟨fun hu => ?_, by rw [ne2 x n1]; exact e1 x o e⟩
    rcases uf_set hu with z | z
    · rcases z with z | z
      · exact n (.inl (.inl z))
      · exact n (.inr z)
    · rcases memS2 x z with y | y | y
      · exact n (.inr ⟨j, y⟩)
      · rw [y] at e
        cases e
      · exact n (.inl (.inr y))
  have keepF : ∀ k, k ≠ j → ∀ b ∈ F k, ∀ o, H1 b = some o → H2 b = some o := fun k n b m o e => by
    have nb : b ≠ a := fun z => by
      subst z
      exact n (s.dj k j b m haF)
    rw [ne2 b nb]
    exact e
  refine ⟨F2, ⟨fun b o e => ?_, by rw [e5, List.length_set, List.length_map]; exact s.len, fun k => ?_, fun k l x h1 h2 => ?_, fun k x h1 => ?_, fun k o ho => ?_, fun k ho => ?_⟩, fun k x hx => ?_⟩
  · have nb : b ≠ a := fun z => by
      subst z
      rw [s.fresh j b haF] at e
      cases e
    show H2 b = some o
    rw [ne2 b nb]
    exact e1 b o (s.same b o e)
  · by_cases hk : k = j
    · show (setF F j S2 k).Nodup
      rw [hk, setF_same]; exact nS2
    · show (setF F j S2 k).Nodup
      rw [setF_ne hk]; exact s.nd k
  · have sep : ∀ k, k ≠ j → x ∈ F k → x ∈ S2 → False := fun k n m m2 => by
      rcases memS2 x m2 with y | y
      · exact n (s.dj k j x m y)
      · exact (newNot x y).2.2.2 k m
    have h1' : x ∈ setF F j S2 k := h1
    have h2' : x ∈ setF F j S2 l := h2
    by_cases hk : k = j
    · rw [hk, setF_same] at h1'
      by_cases hl : l = j
      · rw [hk, hl]
      · rw [setF_ne hl] at h2'
        exact (sep l hl h2' h1').elim
    · rw [setF_ne hk] at h1'
      by_cases hl : l = j
      · rw [hl, setF_same] at h2'
        exact (sep k hk h1' h2').elim
      · rw [setF_ne hl] at h2'
        exact s.dj k l x h1' h2'
  · have h1' : x ∈ setF F j S2 k := h1
    by_cases hk : k = j
    · rw [hk, setF_same] at h1'
      rcases memS2 x h1' with y | y | y
      · exact s.fresh j x y
      · exact s.same.free y
      · exact (hM x y).1
    · rw [setF_ne hk] at h1'
      exact s.fresh k x h1'
  · by_cases hk : k = j
    · subst hk
      rw [gj] at ho
      cases ho
      show Ent K _ _ σ H2 σ[k]? (setF F k S2 k) _
      rw [setF_same, hσ]
      exact ⟨w, rfl, how2⟩
    · rw [gk k hk] at ho
      cases hr : ρ[k]? with
      | none => rw [hr] at ho; cases ho
      | some u =>
        rw [hr] at ho
        have ho' : kilP j p u = o := Option.some.inj ho
        subst ho'
        show Ent K _ _ σ H2 σ[k]? (setF F j S2 k) _
        rw [setF_ne hk]
        have q0 := s.ent k u hr
        have q1 := s1.ent k u hr
        cases u with
        | un => exact q0
        | fz d0 =>
          obtain ⟨x1, v, x2, x3⟩ := q0
          exact ⟨x1, v, x2, dp_sub hideOk _ _ x3⟩
        | ow d0 =>
          obtain ⟨v, x1, x2⟩ := q1
          exact ⟨v, x1, own_mono t t2 _ _ _ x2 (keepF k hk)⟩
        | al k2 q =>
          obtain ⟨x1, v, w2, d2, d2', x2, x3, x4, x5⟩ := q1
          show Ent K _ _ σ H2 σ[k]? (F k) (if k2 = j then (if p.length < q.length then .un else .al k2 q) else .al k2 q)
          by_cases h2 : k2 = j
          · rw [if_pos h2]
            by_cases h3 : p.length < q.length
            · rw [if_pos h3]; exact x1
            · rw [if_neg h3]
              subst h2
              rw [hj] at x3
              cases x3
              rw [hσ] at x4
              cases x4
              obtain ⟨c', hc'⟩ := at_mod hat (OwnR.lst ha hO) t2 rfl rfl how nF (fun x hx hn o e => by
                have n : x ≠ a := fun z => hn (by rw [z]; exact List.mem_cons_self)
                rw [ne2 x n]
                exact e) hat2 (Nat.le_of_not_lt h3) x5
              exact ⟨x1, v, w, _, c', x2, gj, hσ, hc'⟩
          · rw [if_neg h2]
            obtain ⟨v', y1, y2⟩ := s1.ent k2 _ x3
            rw [x4] at y1
            cases y1
            have gk2 : (modE ρ j p (.list ds'))[k2]? = some (.ow d2) := by
              rw [gk k2 h2, x3]
              rfl
            exact ⟨x1, v, w2, d2, d2', x2, gk2, x4, at_frame x5 y2 t2 (keepF k2 h2)⟩
        | vl v => exact q0
        | sh ds =>
          obtain ⟨b, ws, x1, x2, x3, x4⟩ := q0
          exact ⟨b, ws, x1, x2, keepF k hk b (by rw [x2]; simp) _ (e1 _ _ x3), dps_sub hideOk _ _ x4⟩
        | ob u =>
          obtain ⟨b, x1, x2, x3, x4⟩ := q0
          exact ⟨b, x1, x2, keepF k hk b (by rw [x2]; simp) _ (e1 _ _ x3), x4⟩
        | rt _ _ => exact q0
        | im f =>
          obtain ⟨n, b, x1, x2⟩ := q0
          exact ⟨n, b, x1, x2.trans hideOk⟩
        | io _ _ _ => exact q0
  · have hk : k ≠ j := fun z => by
      rw [z, gj] at ho
      cases ho
    show setF F j S2 k = []
    rw [setF_ne hk]
    rw [gk k hk] at ho
    cases hr : ρ[k]? with
    | none => exact s.out k hr
    | some u => rw [hr] at ho; cases ho
  · have hx' : x ∈ setF F j S2 k := hx
    by_cases hk : k = j
    · rw [hk, setF_same] at hx'
      have m' := hp2.mem_iff.mp hx'
      rw [hk]
      rcases List.mem_cons.mp m' with z | z
      · rw [z]
        exact .inl ⟨haF, fun m => aNot (List.mem_append_left _ m)⟩
      · rcases List.mem_append.mp z with z | z
        · exact .inr z
        · exact .inl ⟨inF x (by simp [z]), fun m => (List.nodup_append.mp nSaR).2.2 x m x z rfl⟩
    · rw [setF_ne hk] at hx'
      exact .inl ⟨hx', fun m => hk (s.dj k j x hx' (inF x (by simp [m])))⟩
theorem st_modM {M : List Addr} {j : Nat} {p : List Nat} {w : V} {d : PyData} {a : Addr} {ds : List PyData} (s : StF K B (fun a => W a ∨ a ∈ M) ρ σ H F) (hM : ∀ x ∈ M, B x = none ∧ (∀ k, x ∉ F k) ∧ ∃ u, H x = some u ∧ Mut (some u)) (e1 : Same H H1) (hj : ρ[j]? = some (.ow d)) (hσ : σ[j]? = some (some w)) (hat : AtV H1 w d p (.ref a) (.list ds)) :
    ∃ vs Sa, H1 a = some (.lst vs) ∧ OwnAll K H1 vs ds Sa ∧ Sa.Nodup ∧ (∀ x ∈ Sa, x ∈ F j) ∧ ∀ (vs' : List V) (ds' : List PyData) (Sa' : List Addr), OwnAll K H1 vs' ds' Sa' → Sa'.Nodup → (∀ x ∈ Sa', x ∈ Sa ∨ H x = none ∨ x ∈ M) → StD K B W (modE ρ j p (.list ds')) σ (upd H1 a (.lst vs')) := by
  obtain ⟨vs, Sa, h1, h2, h3, h4, h5⟩ := st_modMF s hM e1 hj hσ hat
  exact ⟨vs, Sa, h1, h2, h3, h4, fun vs' ds' Sa' a b c => (h5 vs' ds' Sa' a b c).imp fun _ z => z.1⟩
end
end DL
namespace DL
open PySem PySem.Spec PyProof.Rows L2

/-! ### slots given up: what they own goes elsewhere -/
def unV (ρ : DEnv) (k : Nat) : DEnv := (ρ.map (kil k)).set k .un
def unVs (ρ : DEnv) : List Nat → DEnv
  | [] => ρ
  | k :: ks => unVs (unV ρ k) ks
section
variable {K : PySem.W.Frag} {B : Hp} {W : Addr → Prop} {ρ : DEnv} {σ : L2.St} {H H1 : Hp} {F : Nat → List Addr}
theorem unV_ne {k i : Nat} (h : k ≠ i) : (unV ρ k)[i]? = (ρ[i]?).map (kil k) := by
  unfold unV
  rw [List.getElem?_set_ne h, List.getElem?_map]
theorem unV_same {k : Nat} {e : DE} (h : (unV ρ k)[k]? = some e) : e = .un := by
  unfold unV at h
  by_cases hl : k < (ρ.map (kil k)).length
  · rw [List.getElem?_set_self hl] at h
    exact (Option.some.inj h).symm
  · rw [List.getElem?_eq_none (by rw [List.length_set]; omega)] at h
    cases h
theorem st_un {k : Nat} {M : List Addr} (s : StF K B (fun a => W a ∨ a ∈ M) ρ σ H F) : StF K B (fun a => W a ∨ a ∈ M ++ F k) (unV ρ k) σ H (setF F k []) := by
  have hu : ∀ a, UF (fun a => W a ∨ a ∈ M ++ F k) (setF F k []) a → UF (fun a => W a ∨ a ∈ M) F a := fun a h => by
    rcases h with (h | h) | ⟨i, h⟩
    · exact .inl (.inl h)
    · rcases List.mem_append.mp h with h | h
      · exact .inl (.inr h)
      · exact .inr ⟨k, h⟩
    · by_cases hi : i = k
      · rw [hi, setF_same] at h
        cases h
      · rw [setF_ne hi] at h
        exact .inr ⟨i, h⟩
  refine ⟨s.same, by unfold unV; rw [List.length_set, List.length_map]; exact s.len, fun i => ?_, fun i j a h1 h2 => ?_, fun i a h => ?_, fun i e he => ?_, fun i hi => ?_⟩
  · by_cases hi : i = k
    · rw [hi, setF_same]; exact .nil
    · rw [setF_ne hi]; exact s.nd i
  · by_cases hi : i = k
    · rw [hi, setF_same] at h1; cases h1
    · rw [setF_ne hi] at h1
      by_cases hj : j = k
      · rw [hj, setF_same] at h2; cases h2
      · rw [setF_ne hj] at h2
        exact s.dj i j a h1 h2
  · by_cases hi : i = k
    · rw [hi, setF_same] at h; cases h
    · rw [setF_ne hi] at h; exact s.fresh i a h
  · by_cases hi : i = k
    · subst hi
      rw [unV_same he, setF_same]
      rfl
    · rw [unV_ne (Ne.symm hi)] at he
      rw [setF_ne hi]
      cases hr : ρ[i]? with
      | none => rw [hr] at he; cases he
      | some u =>
        rw [hr] at he
        have he' : kil k u = e := Option.some.inj he
        subst he'
        have q := s.ent i u hr
        cases u with
        | un => exact q
        | fz d =>
          obtain ⟨a, v, b, c⟩ := q
          exact ⟨a, v, b, dp_sub (hide_same (Same.refl _) fun x o _ z => hu x z) _ _ c⟩
        | ow d => exact q
        | al j p =>
          obtain ⟨a, v, w, d, d', b, c, g, t⟩ := q
          show Ent K _ _ σ H _ _ (if j = k then .un else .al j p)
          by_cases hj : j = k
          · rw [if_pos hj]; exact a
          · rw [if_neg hj]
            exact ⟨a, v, w, d, d', b, by rw [unV_ne (Ne.symm hj), c]; rfl, g, t⟩
        | vl v => exact q
        | sh ds =>
          obtain ⟨a, vs, x1, x2, x3, x4⟩ := q
          exact ⟨a, vs, x1, x2, x3, dps_sub (hide_same (Same.refl _) fun x o _ z => hu x z) _ _ x4⟩
        | ob u => exact q
        | rt j a =>
          show Ent K _ _ σ H _ _ (if j = k then .un else .rt j a)
          by_cases hj : j = k
          · rw [if_pos hj]; exact q.1
          · rw [if_neg hj]; exact q
        | im f =>
          obtain ⟨n, a, x1, x2⟩ := q
          exact ⟨n, a, x1, x2.trans (hide_same (Same.refl _) (fun x o _ z => hu x z))⟩
        | io _ _ _ => exact q
  · by_cases hk : i = k
    · rw [hk, setF_same]
    · rw [setF_ne hk]
      rw [unV_ne (Ne.symm hk)] at hi
      cases hr : ρ[i]? with
      | none => exact s.out i hr
      | some u => rw [hr] at hi; cases hi
/-- several slots given up -/
theorem st_uns : ∀ (ks : List Nat) {ρ : DEnv} {F : Nat → List Addr} {M : List Addr}, StF K B (fun a => W a ∨ a ∈ M) ρ σ H F → (∀ x ∈ M, B x = none ∧ (∀ k, x ∉ F k) ∧ ∃ u, H x = some u ∧ Mut (some u)) → ks.Nodup →
    ∃ (F' : Nat → List Addr) (M' : List Addr), StF K B (fun a => W a ∨ a ∈ M') (unVs ρ ks) σ H F' ∧ (∀ x ∈ M', B x = none ∧ (∀ k, x ∉ F' k) ∧ ∃ u, H x = some u ∧ Mut (some u)) ∧ (∀ (x : Addr), x ∈ M → x ∈ M') ∧ (∀ k ∈ ks, ∀ (x : Addr), x ∈ F k → x ∈ M') ∧ ∀ k, k ∉ ks → F' k = F k
  | [], ρ, F, M, s, hM, _ => ⟨F, M, s, hM, fun _ h => h, (fun k h => by cases h), fun _ _ => rfl⟩
  | k :: ks, ρ, F, M, s, hM, nd => by
    have s' := st_un (k := k) s
    have nd' := List.nodup_cons.mp nd
    have hM' : ∀ x ∈ M ++ F k, B x = none ∧ (∀ i, x ∉ setF F k [] i) ∧ ∃ u, H x = some u ∧ Mut (some u) := fun x hx => by
      rcases List.mem_append.mp hx with hx | hx
      · obtain ⟨a, b, c⟩ := hM x hx
        refine ⟨a, fun i m => ?_, c⟩
        by_cases hi : i = k
        · rw [hi, setF_same] at m; cases m
        · rw [setF_ne hi] at m; exact b i m
      · refine ⟨s.fresh k x hx, fun i m => ?_, s.lstAt hx⟩
        by_cases hi : i = k
        · rw [hi, setF_same] at m; cases m
        · rw [setF_ne hi] at m; exact hi (s.dj i k x m hx)
    obtain ⟨F', M', a, b, c, d, e⟩ := st_uns ks s' hM' nd'.2
    refine ⟨F', M', a, b, fun x hx => c x (List.mem_append_left _ hx), fun i hi x hx => ?_, fun i hi => ?_⟩
    · by_cases hk : i = k
      · subst hk
        exact c x (List.mem_append_right _ hx)
      · rcases List.mem_cons.mp hi with z | z
        · exact absurd z hk
        · exact d i z x (by rw [setF_ne hk]; exact hx)
    · have h1 : i ≠ k := fun z => hi (by rw [z]; exact List.mem_cons_self)
      rw [e i fun z => hi (List.mem_cons_of_mem _ z), setF_ne h1]
theorem unVs_get {j : Nat} {d : PyData} : ∀ (ks : List Nat) {ρ : DEnv}, j ∉ ks → ρ[j]? = some (.ow d) → (unVs ρ ks)[j]? = some (.ow d)
  | [], _, _, h => h
  | k :: ks, ρ, hn, h => unVs_get ks (fun z => hn (List.mem_cons_of_mem _ z)) (by
    rw [unV_ne fun z => hn (by rw [z]; exact List.mem_cons_self), h]
    rfl)
end
/-! ### expressions that take what slots own -/
def RM (X : Cx) (e : Expr) (ρ : DEnv) (ks : List Nat) (Q : PyData → Prop) : Prop := ∀ (B : Hp) (W : Addr → Prop) (σ : L2.St) (H : Hp) (F : Nat → List Addr), MutU W B → StF X.K B W ρ σ H F → WE X e σ H fun v H' => Same H H' ∧ ∃ d S, OwnR X.K H' v d S ∧ S.Nodup ∧ (∀ a ∈ S, H a = none ∨ ∃ k ∈ ks, a ∈ F k) ∧ Q d
def RMA (X : Cx) (es : List Expr) (ρ : DEnv) (ks : List Nat) (Q : List PyData → Prop) : Prop := ∀ (B : Hp) (W : Addr → Prop) (σ : L2.St) (H : Hp) (F : Nat → List Addr), MutU W B → StF X.K B W ρ σ H F → WA X es σ H fun vs H' => Same H H' ∧ ∃ ds S, OwnAll X.K H' vs ds S ∧ S.Nodup ∧ (∀ a ∈ S, H a = none ∨ ∃ k ∈ ks, a ∈ F k) ∧ Q ds
section
variable {X : Cx} {ρ : DEnv} {D D' : DEnds} {st : Stmt} {sts rest body : List Stmt} {a e c o iter tg : Expr} {es : List Expr} {pos pos' apos cpos : Pos} {x : Str} {ks ks2 : List Nat}
theorem rm_of {Q : PyData → Prop} (h : RD X e ρ fun o => ∃ d, owd ρ o d ∧ Q d) : RM X e ρ [] Q := fun B W σ H F hW s =>
  we_mono (h _ σ H (s.mut hW) s.env) fun v H' ⟨e', o, r, d, hd, q⟩ => by
    obtain ⟨S, o1, n1, f1⟩ := owd_own s.env e' r hd
    exact ⟨e', d, S, o1, n1, fun a m => .inl (f1 a m), q⟩
theorem rm_name (i : Nat) {Q : PyData → Prop} {d : PyData} (ho : ρ[i]? = some (.ow d)) (q : Q d) (hN : X.N[i]? = some x := by rfl) (hv : Vis X.env.scope x := by first | exact Or.inl rfl | exact Or.inr (Or.inl rfl) | exact Or.inr (Or.inr rfl)) (hd : (x == ("__debug__" : Str)) = false := by decide) (hcd : (x == ("__classdict__" : Str)) = false := by decide) : RM X (.Name x pos) ρ [i] Q := fun B W σ H F hW s => by
  obtain ⟨v, e1, e2⟩ := s.ent i _ ho
  exact we_of (pe_var hN hv hd hcd) ⟨v, e1, Same.refl _, d, F i, e2, s.nd i, fun a m => .inr ⟨i, by simp, m⟩, q⟩
theorem rma_nil {Q : List PyData → Prop} (q : Q []) : RMA X [] ρ [] Q := fun B W σ H F hW s => wa_of pa_nil ⟨Same.refl _, [], [], .nil, .nil, (fun a m => by cases m), q⟩
theorem rma_cons {Q : List PyData → Prop} (h : RM X a ρ ks fun d => RMA X es ρ ks2 fun ds => Q (d :: ds)) (hd : ∀ k ∈ ks, k ∉ ks2 := by decide) (hs : starEach (a :: es) X.env = (false, eval a X.env) :: starEach es X.env := by rfl) : RMA X (a :: es) ρ (ks ++ ks2) Q := fun B W σ H F hW s => by
  refine wa_of (pa_cons pe_w pa_w hs) (we_mono (h B W σ H F hW s) fun v H1 ⟨e1, d, S, o1, n1, f1, h2⟩ => ?_)
  refine wa_mono (h2 B W σ H1 F hW (s.mono e1)) fun vs H2 ⟨e2, ds, T, o2, n2, f2, q⟩ => ⟨e1.trans e2, d :: ds, S ++ T, .cons (own_same e2 o1) o2, ?_, fun x hx => ?_, q⟩
  · refine List.nodup_append.mpr ⟨n1, n2, fun x hx y hy z => ?_⟩
    subst z
    obtain ⟨xs, hxs⟩ := own_mem _ _ _ o1 x hx
    rcases f2 x hy with g | ⟨k2, hk2, g⟩
    · rw [g] at hxs
      cases hxs
    · rcases f1 x hx with g1 | ⟨k1, hk1, g1⟩
      · obtain ⟨ys, hys, _⟩ := s.lstAt g
        rw [g1] at hys
        cases hys
      · have := s.dj k1 k2 x g1 g
        subst this
        exact hd _ hk1 hk2
  · rcases List.mem_append.mp hx with hx | hx
    · rcases f1 x hx with g | ⟨k, hk, g⟩
      · exact .inl g
      · exact .inr ⟨k, List.mem_append_left _ hk, g⟩
    · rcases f2 x hx with g | ⟨k, hk, g⟩
      · exact .inl (e1.free g)
      · exact .inr ⟨k, List.mem_append_right _ hk, g⟩
theorem rm_tuple {x1} {Q : PyData → Prop} (h : RMA X es ρ ks fun ds => ds.length ≤ sizeLine ∧ Q (.tuple ds)) : RM X (.Tuple es x1 pos) ρ ks Q := fun B W σ H F hW s => by
  refine we_of (pe_tup pa_w) (wa_mono (h B W σ H F hW s) fun vs H1 ⟨e1, ds, S, o, n, f, hz, q⟩ => ⟨by rw [owns_len o]; exact hz, fun p hp => ⟨e1.trans (same_new hp), .tuple ds, S, .tup upd_same (owns_same (same_new hp) o), n, f, q⟩⟩)
theorem rm_list {Q : PyData → Prop} (h : RMA X es ρ ks fun ds => ds.length ≤ sizeLine ∧ Q (.list ds)) : RM X (.List es pos) ρ ks Q := fun B W σ H F hW s => by
  refine we_of (pe_lst pa_w) (wa_mono (h B W σ H F hW s) fun vs H1 ⟨e1, ds, S, o, n, f, hz, q⟩ => ⟨by rw [owns_len o]; exact hz, fun p hp => ⟨e1.trans (same_new hp), .list ds, p :: S, .lst upd_same (owns_same (same_new hp) o), List.nodup_cons.mpr ⟨fun z => ?_, n⟩, fun y hy => ?_, q⟩⟩)
  · obtain ⟨xs, hxs⟩ := owns_mem _ _ _ o p z
    rw [hp] at hxs
    cases hxs
  · rcases List.mem_cons.mp hy with z | z
    · subst z
      exact .inl (e1.free hp)
    · exact f y z
/-- x = e, e taking what slots own -/
theorem s_retM (h : RM X e ρ ks fun d => D.rt (.ow d)) : S1 X (.Return (some e) pos) ρ D := fun B W σ H hW ⟨F, s⟩ =>
  ws_of (ps_ret pe_w) (we_mono (h B W σ H F hW s) fun v H' ⟨e', d, S, o, n, f, q⟩ => ⟨s.same.trans e', .ow d, ⟨S, o, n, fun a m => by
    rcases f a m with g | ⟨k, _, g⟩
    · exact s.same.free g
    · exact s.fresh k a g⟩, q⟩)
/-! ### lists changed in place -/
/-- the place: a part of what a slot owns -/
theorem st_place {B : Hp} {W : Addr → Prop} {σ : L2.St} {H H1 : Hp} {F : Nat → List Addr} {v : V} {j : Nat} {p : List Nat} {ds : List PyData} (s : StF X.K B W ρ σ H F) (e1 : Same H H1) (r : ResR X.K (UF W F) ρ σ H H1 v (.al j p)) (hd : dat ρ (.al j p) = some (.list ds)) :
    ∃ a w d, v = .ref a ∧ ρ[j]? = some (.ow d) ∧ σ[j]? = some (some w) ∧ AtV H1 w d p (.ref a) (.list ds) := by
  obtain ⟨w, d, d', hj, hσ, hat⟩ := r
  have z : (match ρ[j]? with
    | some (.ow d) => subAt d p
    | _ => none) = some (.list ds) := hd
  rw [hj] at z
  have z' : subAt d p = some (.list ds) := z
  rw [at_sub hat] at z'
  cases z'
  obtain ⟨w', q1, q2⟩ := (s.mono e1).ent j _ hj
  rw [hσ] at q1
  cases q1
  obtain ⟨S', o', _⟩ := own_at hat q2
  obtain ⟨a, xs, T, ev, _⟩ := own_list o'
  subst ev
  exact ⟨a, w, d, rfl, hj, hσ, hat⟩
theorem s_append (h : RD X o ρ fun oo => ∃ j p ds, oo = .al j p ∧ dat ρ oo = some (.list ds) ∧ ds.length < sizeLine ∧ j ∉ ks ∧ RM X e ρ ks fun d => D.nx (modE (unVs ρ ks) j p (.list (ds ++ [d]))))
    (hnd : ks.Nodup := by decide) (hbase : attributeBase o "append" X.env (eval o X.env) = eval o X.env := by rfl)
    (hfew : ((backTo cpos (starEach (e :: []) X.env)).all (fun x => !x.1) && (backToKw cpos (keywordEach [] X.env)).all (fun x => x.1.isSome) && decide ((e :: []).length + ([] : List Keyword).length + (if ([] : List Keyword).isEmpty then 0 else 1) < 30)) = true := by rfl)
    (hline : (apos.endLine == cpos.line) = true := by rfl) (hst : starEach (e :: []) X.env = (false, eval e X.env) :: starEach [] X.env := by rfl) (hplain : (backTo cpos (starEach [] X.env)).any (·.1) = false := by rfl)
    (hs : swapsWith (.Call (.Attribute o "append" apos) [e] [] cpos) none pos.line X.env = pure false := by rfl) : S1 X (.Expr (.Call (.Attribute o "append" apos) [e] [] cpos) pos) ρ D := fun B W σ H hW ⟨F, s⟩ => by
  refine ws_of (ps_expr (pe_bm PySem.F.plainAttrs_list PySem.F.slot_list_append PySem.F.type_list_append mt_append pe_w (pa_cons pe_w pa_nil hst) hbase hfew hline hst hplain) hs) ?_
  refine we_mono (h _ σ H (s.mut hW) s.env) fun v H1 ⟨e1, oo, r, j, p, ds, eo, hd, hz, hjk, h2⟩ => ?_
  subst eo
  obtain ⟨a, w, d, ev, hj, hσ, hat⟩ := st_place s e1 r hd
  subst ev
  have s1 := s.mono e1
  obtain ⟨vs0, _, _, ha0, _, _, _⟩ := own_zip hat rfl rfl (by
    obtain ⟨w', q1, q2⟩ := s1.ent j _ hj
    rw [hσ] at q1
    cases q1
    exact q2)
  refine ⟨.inl ⟨rfl, _, .inl (.inl ha0)⟩, we_mono (h2 B W σ H1 F hW s1) fun u H2 ⟨e2, dd, S, oS, nS, fS, q⟩ => ?_⟩
  have s0 : StF X.K B (fun a => W a ∨ a ∈ ([] : List Addr)) ρ σ H1 F := by
    have : (fun a => W a ∨ a ∈ ([] : List Addr)) = W := by funext x; simp
    rw [this]
    exact s1
  obtain ⟨F', M', s3, hM', _, hk', hF'⟩ := st_uns ks s0 (fun x hx => by cases hx) hnd
  have hj' := unVs_get ks hjk hj
  obtain ⟨vs, Sa, ha, hO, nSa, hSF, put⟩ := st_modM (d := d) s3 hM' e2 hj' hσ (at_same e2 hat)
  have hlen := owns_len hO
  refine ⟨a, vs, u, rfl, rfl, ha, by omega, _, ?_, q⟩
  refine put (vs ++ [u]) (ds ++ [dd]) (Sa ++ S) (owns_snoc hO oS) (List.nodup_append.mpr ⟨nSa, nS, fun x hx y hy z => ?_⟩) (fun x hx => ?_)
  · subst z
    have hx' : x ∈ F j := by rw [← hF' j hjk]; exact hSF x hx
    rcases fS x hy with g | ⟨k, hk, g⟩
    · obtain ⟨xs, hxs, _⟩ := s1.lstAt hx'
      rw [g] at hxs
      cases hxs
    · have := s.dj j k x hx' g
      subst this
      exact hjk hk
  · rcases List.mem_append.mp hx with hx | hx
    · exact .inl hx
    · rcases fS x hx with g | ⟨k, hk, g⟩
      · exact .inr (.inl g)
      · exact .inr (.inr (hk' k hk x g))
end
end DL
namespace DL
open PySem PySem.Spec PyProof.Rows L2

/-! ### a list of frozen items, its own node owned -/
section
variable {X : Cx} {ρ : DEnv} {D D' : DEnds} {st : Stmt} {sts rest body : List Stmt} {a e c o iter tg : Expr} {es : List Expr} {pos pos' apos cpos p2 : Pos} {x : Str} {ks : List Nat}
theorem sd_freeze {i : Nat} {d : PyData} (hi : ρ[i]? = some (.ow d)) (h : SD X sts ((ρ.map (kil i)).set i (.fz d)) D) : SD X sts ρ D := fun B W σ H hW ⟨F, s⟩ => by
  refine h B W σ H hW ⟨setF F i [], ?_⟩
  obtain ⟨v, hv, ho⟩ := s.ent i _ hi
  have hl : i < ρ.length := (List.getElem?_eq_some_iff.mp hi).1
  have hu : ∀ a, UF W (setF F i []) a → UF W F a := fun a h => by
    rcases uf_set h with z | z
    · exact z
    · cases z
  have sub : Same (Hide H (UF W F)) (Hide H (UF W (setF F i []))) := hide_same (Same.refl _) fun x o _ z => hu x z
  have dpv : Rp X.K (Hide H (UF W (setF F i []))) v d := by
    have m := s.mut hW
    refine own_dp _ _ _ (own_mono (H := H) (Tups.trans (hide_tups m) (Same.tups sub)) (fun a xs e => sub _ _ (hide_some.mpr ⟨fun z => ?_, e⟩)) _ _ _ ho fun a ha o' e => hide_some.mpr ⟨fun z => ?_, e⟩)
    · have q := m a z
      rw [e] at q
      exact q
    · rcases z with z | ⟨k, z⟩
      · have q := hW a z
        rw [s.fresh i a ha] at q
        exact q
      · by_cases hk : k = i
        · rw [hk, setF_same] at z; cases z
        · rw [setF_ne hk] at z
          exact hk (s.dj k i a z ha)
  refine ⟨s.same, by rw [List.length_set, List.length_map]; exact s.len, fun k => ?_, fun k l a h1 h2 => ?_, fun k a h1 => ?_, fun k e he => ?_, fun k hk => ?_⟩
  · by_cases hk : k = i
    · rw [hk, setF_same]; exact .nil
    · rw [setF_ne hk]; exact s.nd k
  · by_cases hk : k = i
    · rw [hk, setF_same] at h1; cases h1
    · rw [setF_ne hk] at h1
      by_cases hl : l = i
      · rw [hl, setF_same] at h2; cases h2
      · rw [setF_ne hl] at h2
        exact s.dj k l a h1 h2
  · by_cases hk : k = i
    · rw [hk, setF_same] at h1; cases h1
    · rw [setF_ne hk] at h1; exact s.fresh k a h1
  · by_cases hk : i = k
    · subst hk
      rw [List.getElem?_set_self (by rw [List.length_map]; exact hl)] at he
      cases he
      rw [setF_same]
      exact ⟨rfl, v, hv, dpv⟩
    · rw [List.getElem?_set_ne hk, List.getElem?_map] at he
      rw [setF_ne (Ne.symm hk)]
      cases hr : ρ[k]? with
      | none => rw [hr] at he; cases he
      | some u =>
        rw [hr] at he
        have he' : kil i u = e := Option.some.inj he
        subst he'
        have q := s.ent k u hr
        cases u with
        | un => exact q
        | fz d => obtain ⟨a, v, b, c⟩ := q; exact ⟨a, v, b, dp_sub sub _ _ c⟩
        | ow d => exact q
        | al j p =>
          obtain ⟨a, v, w, d, d', b, c, g, t⟩ := q
          show Ent X.K _ _ σ H _ _ (if j = i then .un else .al j p)
          by_cases hj : j = i
          · rw [if_pos hj]; exact a
          · rw [if_neg hj]
            exact ⟨a, v, w, d, d', b, by rw [List.getElem?_set_ne (Ne.symm hj), List.getElem?_map, c]; rfl, g, t⟩
        | vl v => exact q
        | sh ds => obtain ⟨a, vs, x1, x2, x3, x4⟩ := q; exact ⟨a, vs, x1, x2, x3, dps_sub sub _ _ x4⟩
        | ob u => exact q
        | rt j a =>
          show Ent X.K _ _ σ H _ _ (if j = i then .un else .rt j a)
          by_cases hj : j = i
          · rw [if_pos hj]; exact q.1
          · rw [if_neg hj]; exact q
        | im f =>
          obtain ⟨n, a, x1, x2⟩ := q
          exact ⟨n, a, x1, x2.trans sub⟩
        | io _ _ _ => exact q
  · have hk' : k ≠ i := fun z => by
      rw [z, List.getElem?_set_self (by rw [List.length_map]; exact hl)] at hk
      cases hk
    rw [setF_ne hk']
    rw [List.getElem?_set_ne (Ne.symm hk'), List.getElem?_map] at hk
    cases hr : ρ[k]? with
    | none => exact s.out k hr
    | some u => rw [hr] at hk; cases hk
/-- x = [..] of frozen items -/
theorem s_setSh (i : Nat) (h : RFA X es ρ fun ds => ds.length ≤ sizeLine ∧ D.nx (setV ρ i (.sh ds))) (hN : X.N.Nodup) (hi : X.N[i]? = some x := by rfl) (hx : Loc X.env.scope x := by first | exact Or.inl rfl | exact Or.inr rfl) (hl : Nat.blt i ρ.length = true := by rfl) (hs : swapsWith (.List es p2) (some (.Name x pos')) pos.line X.env = pure false := by rfl)
    (hf : X.fn x = true ∨ X.env.scope.names.lookup x = some .local := by first | exact .inl rfl | exact .inr rfl) : S1 X (.Assign [.Name x pos'] (.List es p2) pos) ρ D := fun B W σ H hW ⟨F, s⟩ => by
  refine ws_of (ps_set hN hi hx (pe_lst pa_w) hs hf) (wa_mono (h _ σ H (s.mut hW) s.env) fun vs H' ⟨e', ds, ps, hz, q⟩ => ⟨by rw [dps_len ps]; exact hz, fun p hp => ?_⟩)
  have e2 : Same H (upd H' p (.lst vs)) := e'.trans (same_new hp)
  refine ⟨setV ρ i (.sh ds), ⟨_, st_set (S := [p]) (e := .sh ds) s e2 (Nat.blt_eq.mp hl) (by simp) (fun a m => ?_) ⟨p, vs, rfl, rfl, upd_same, ?_⟩⟩, q⟩
  · rw [List.mem_singleton.mp m]
    exact e'.free hp
  · refine dps_sub (fun b o z => ?_) _ _ ps
    obtain ⟨n, z⟩ := hide_some.mp z
    have nb : b ≠ p := ne_of_none z hp
    refine hide_some.mpr ⟨fun q => ?_, by rw [upd_ne nb]; exact z⟩
    rcases uf_set q with q | q
    · exact n q
    · exact nb (List.mem_singleton.mp q)
theorem st_upd_sh {B : Hp} {W : Addr → Prop} {σ : L2.St} {H : Hp} {F : Nat → List Addr} {i : Nat} {a : Addr} {ds ds' : List PyData} {vs' : List V} (s : StF X.K B W ρ σ H F) (hi : ρ[i]? = some (.sh ds)) (hv : σ[i]? = some (some (.ref a))) (hF : F i = [a]) (ps : RpAll X.K (Hide H (UF W F)) vs' ds') :
    StF X.K B W (ρ.set i (.sh ds')) σ (upd H a (.lst vs')) F := by
  have hl : i < ρ.length := (List.getElem?_eq_some_iff.mp hi).1
  have haF : a ∈ F i := by rw [hF]; simp
  obtain ⟨xs0, ha0, ma0⟩ := s.lstAt haF
  have ne : ∀ b, b ≠ a → (upd H a (.lst vs')) b = H b := fun b n => upd_ne n
  have sub : Same (Hide H (UF W F)) (Hide (upd H a (.lst vs')) (UF W F)) := fun b o e => by
    obtain ⟨n, e⟩ := hide_some.mp e
    have nb : b ≠ a := fun z => n (.inr ⟨i, by rw [z]; exact haF⟩)
    exact hide_some.mpr ⟨n, by rw [ne b nb]; exact e⟩
  have t : Tups H (upd H a (.lst vs')) := upd_tups (by rw [ha0]; exact ma0)
  have t2 : ∀ b xs, H b = some (.tup xs) → (upd H a (.lst vs')) b = some (.tup xs) := fun b xs e => by
    have n : b ≠ a := fun z => by rw [z, ha0] at e; cases e; exact ma0.elim
    rw [ne b n]; exact e
  have keepF : ∀ k, k ≠ i → ∀ b ∈ F k, ∀ o, H b = some o → (upd H a (.lst vs')) b = some o := fun k n b m o e => by
    have nb : b ≠ a := fun z => by
      subst z
      exact n (s.dj k i b m haF)
    rw [ne b nb]; exact e
  refine ⟨fun b o e => ?_, by rw [List.length_set]; exact s.len, s.nd, s.dj, s.fresh, fun k e he => ?_, fun k hk => ?_⟩
  · have nb : b ≠ a := fun z => by
      subst z
      rw [s.fresh i b haF] at e
      cases e
    rw [ne b nb]
    exact s.same b o e
  · by_cases hk : i = k
    · subst hk
      rw [List.getElem?_set_self hl] at he
      cases he
      exact ⟨a, vs', hv, hF, upd_same, dps_sub sub _ _ ps⟩
    · rw [List.getElem?_set_ne hk] at he
      have q := s.ent k e he
      cases e with
      | un => exact q
      | fz d => obtain ⟨x1, v, x2, x3⟩ := q; exact ⟨x1, v, x2, dp_sub sub _ _ x3⟩
      | ow d => obtain ⟨v, x1, x2⟩ := q; exact ⟨v, x1, own_mono t t2 _ _ _ x2 (keepF k (Ne.symm hk))⟩
      | al j p =>
        obtain ⟨x1, v, w, d, d', x2, x3, x4, x5⟩ := q
        have hj : j ≠ i := fun z => by
          rw [z, hi] at x3
          cases x3
        obtain ⟨v', y1, y2⟩ := s.ent j _ x3
        rw [x4] at y1
        cases y1
        exact ⟨x1, v, w, d, d', x2, by rw [List.getElem?_set_ne (Ne.symm hj)]; exact x3, x4, at_frame x5 y2 t2 (keepF j hj)⟩
      | vl v => exact q
      | sh es =>
        obtain ⟨b, ws, x1, x2, x3, x4⟩ := q
        exact ⟨b, ws, x1, x2, keepF k (Ne.symm hk) b (by rw [x2]; simp) _ x3, dps_sub sub _ _ x4⟩
      | ob u =>
        obtain ⟨b, x1, x2, x3, x4⟩ := q
        exact ⟨b, x1, x2, keepF k (Ne.symm hk) b (by rw [x2]; simp) _ x3, x4⟩
      | rt _ _ => exact q
      | im f =>
        obtain ⟨n, a, x1, x2⟩ := q
        exact ⟨n, a, x1, x2.trans sub⟩
      | io _ _ _ => exact q
  · refine s.out k ?_
    by_cases h2 : i = k
    · subst h2
      rw [List.getElem?_set_self hl] at hk
      cases hk
    · rw [List.getElem?_set_ne h2] at hk
      exact hk
/-- name.append(e), e frozen -/
theorem s_appendSh (i : Nat) {ds : List PyData} (hi : ρ[i]? = some (.sh ds)) (hz : ds.length < sizeLine) (h : RF X e ρ fun d => D.nx (ρ.set i (.sh (ds ++ [d])))) (hNi : X.N[i]? = some x := by rfl) (hv : Vis X.env.scope x := by first | exact Or.inl rfl | exact Or.inr (Or.inl rfl) | exact Or.inr (Or.inr rfl))
    (hdb : (x == ("__debug__" : Str)) = false := by decide) (hcd : (x == ("__classdict__" : Str)) = false := by decide)
    (hbase : attributeBase (.Name x pos') "append" X.env (eval (.Name x pos') X.env) = eval (.Name x pos') X.env := by rfl)
    (hfew : ((backTo cpos (starEach (e :: []) X.env)).all (fun x => !x.1) && (backToKw cpos (keywordEach [] X.env)).all (fun x => x.1.isSome) && decide ((e :: []).length + ([] : List Keyword).length + (if ([] : List Keyword).isEmpty then 0 else 1) < 30)) = true := by rfl)
    (hline : (apos.endLine == cpos.line) = true := by rfl) (hst : starEach (e :: []) X.env = (false, eval e X.env) :: starEach [] X.env := by rfl) (hplain : (backTo cpos (starEach [] X.env)).any (·.1) = false := by rfl)
    (hs : swapsWith (.Call (.Attribute (.Name x pos') "append" apos) [e] [] cpos) none pos.line X.env = pure false := by rfl) : S1 X (.Expr (.Call (.Attribute (.Name x pos') "append" apos) [e] [] cpos) pos) ρ D := fun B W σ H hW ⟨F, s⟩ => by
  obtain ⟨a, vs, x1, x2, x3, x4⟩ := s.ent i _ hi
  refine ws_of (ps_expr (pe_bm PySem.F.plainAttrs_list PySem.F.slot_list_append PySem.F.type_list_append mt_append (pe_var hNi hv hdb hcd) (pa_cons pe_w pa_nil hst) hbase hfew hline hst hplain) hs) ?_
  refine ⟨.ref a, x1, .inl ⟨rfl, _, .inl (.inl x3)⟩, we_mono (h _ σ H (s.mut hW) s.env) fun u H2 ⟨e2, d, p, q⟩ => ?_⟩
  have s2 := s.mono e2
  refine ⟨a, vs, u, rfl, rfl, e2 _ _ x3, by rw [dps_len x4]; exact hz, _, ⟨F, st_upd_sh s2 hi x1 x2 (dps_app (dps_sub (hide_same e2 fun _ _ _ z => z) _ _ x4) (.cons p .nil))⟩, q⟩
/-- the node is frozen too -/
theorem sd_freezeSh {i : Nat} {ds : List PyData} (hi : ρ[i]? = some (.sh ds)) (h : SD X sts (ρ.set i (.fz (.list ds))) D) : SD X sts ρ D := fun B W σ H hW ⟨F, s⟩ => by
  obtain ⟨a, vs, x1, x2, x3, x4⟩ := s.ent i _ hi
  have hl : i < ρ.length := (List.getElem?_eq_some_iff.mp hi).1
  have hu : ∀ a, UF W (setF F i []) a → UF W F a := fun a h => by
    rcases uf_set h with z | z
    · exact z
    · cases z
  have sub : Same (Hide H (UF W F)) (Hide H (UF W (setF F i []))) := hide_same (Same.refl _) fun x o _ z => hu x z
  have haF : a ∈ F i := by rw [x2]; simp
  have vis : Hide H (UF W (setF F i [])) a = some (.lst vs) := hide_some.mpr ⟨fun z => by
    rcases z with z | ⟨k, z⟩
    · have q := hW a z
      rw [s.fresh i a haF] at q
      exact q
    · by_cases hk : k = i
      · rw [hk, setF_same] at z; cases z
      · rw [setF_ne hk] at z
        exact hk (s.dj k i a z haF), x3⟩
  refine h B W σ H hW ⟨setF F i [], s.same, by rw [List.length_set]; exact s.len, fun k => ?_, fun k l a h1 h2 => ?_, fun k a h1 => ?_, fun k e he => ?_, fun k hk => ?_⟩
  · by_cases hk : k = i
    · rw [hk, setF_same]; exact .nil
    · rw [setF_ne hk]; exact s.nd k
  · by_cases hk : k = i
    · rw [hk, setF_same] at h1; cases h1
    · rw [setF_ne hk] at h1
      by_cases hl : l = i
      · rw [hl, setF_same] at h2; cases h2
      · rw [setF_ne hl] at h2
        exact s.dj k l a h1 h2
  · by_cases hk : k = i
    · rw [hk, setF_same] at h1; cases h1
    · rw [setF_ne hk] at h1; exact s.fresh k a h1
  · by_cases hk : i = k
    · subst hk
      rw [List.getElem?_set_self hl] at he
      cases he
      rw [setF_same]
      exact ⟨rfl, .ref a, x1, .lst (.inl (.inl vis)) (dps_sub sub _ _ x4)⟩
    · rw [List.getElem?_set_ne hk] at he
      rw [setF_ne (Ne.symm hk)]
      have q := s.ent k e he
      cases e with
      | un => exact q
      | fz d => obtain ⟨a, v, b, c⟩ := q; exact ⟨a, v, b, dp_sub sub _ _ c⟩
      | ow d => exact q
      | al j p =>
        obtain ⟨x1, v, w, d, d', x2, x3, x4, x5⟩ := q
        have hj : j ≠ i := fun z => by
          rw [z, hi] at x3
          cases x3
        exact ⟨x1, v, w, d, d', x2, by rw [List.getElem?_set_ne (Ne.symm hj)]; exact x3, x4, x5⟩
      | vl v => exact q
      | sh ds => obtain ⟨a, vs, x1, x2, x3, x4⟩ := q; exact ⟨a, vs, x1, x2, x3, dps_sub sub _ _ x4⟩
      | ob u => exact q
      | rt _ _ => exact q
      | im f =>
        obtain ⟨n, a, x1, x2⟩ := q
        exact ⟨n, a, x1, x2.trans sub⟩
      | io _ _ _ => exact q
  · have hk' : k ≠ i := fun z => by
      rw [z, List.getElem?_set_self hl] at hk
      cases hk
    rw [setF_ne hk']
    rw [List.getElem?_set_ne (Ne.symm hk')] at hk
    exact s.out k hk
/-! ### slices -/
def cutD (ds : List PyData) (lo hi : Option Int) : List PyData := (ds.drop (HT.sIx ds.length 0 lo)).take (HT.sIx ds.length ds.length hi - HT.sIx ds.length 0 lo)
theorem dps_cut {K : PySem.W.Frag} {H : Hp} {ds : List PyData} {vs : List V} (h : RpAll K H vs ds) (lo hi : Option Int) : RpAll K H (cutV vs lo hi) (cutD ds lo hi) := by
  unfold cutV cutD
  rw [dps_len h]
  exact dps_take _ (dps_drop _ h)
/-- a part of a slice -/
def RP (X : Cx) (e : Option Expr) (ρ : DEnv) (Q : Option Int → Prop) : Prop := ∀ (U : Addr → Prop) (σ : L2.St) (H : Hp), MutU U H → EnvR X.K U ρ σ H → ∃ t, PO X e t ∧ t σ H fun r H' => Same H H' ∧ Q r
theorem rp_none {Q : Option Int → Prop} (q : Q none) : RP X none ρ Q := fun U σ H m E => ⟨_, po_none, Same.refl _, q⟩
theorem rp_some {Q : Option Int → Prop} (h : RV X e ρ fun d => ∃ i, d = .int i ∧ Q (some i)) : RP X (some e) ρ Q := fun U σ H m E => ⟨_, po_some pe_w, we_mono (h U σ H m E) fun v H' ⟨e', d, p, i, ed, q⟩ => by
  subst ed
  cases p
  exact ⟨i, rfl, e', q⟩⟩
def WP (X : Cx) (e : Option Expr) : TO := fun σ H Q => ∀ pins s, Inv X pins σ H s → wpAny (model X.prog X.w) X.A (evalPart e X.env) (fun u s' => ∃ o H', Inv X pins σ H' s' ∧ IsPart u o ∧ Q o H') X.xe s
theorem po_w {e : Option Expr} : PO X e (WP X e) := ⟨fun pins s σ H Q I h => h pins s I⟩
theorem wp_mono {e : Option Expr} {σ : L2.St} {H : Hp} {Q Q' : Option Int → Hp → Prop} (h : WP X e σ H Q) (k : ∀ r H', Q r H' → Q' r H') : WP X e σ H Q' := fun pins s I => thn (h pins s I) fun u s' ⟨o, H', I', p, q⟩ => ⟨o, H', I', p, k _ _ q⟩
theorem rp_run {e : Option Expr} {Q : Option Int → Prop} {U : Addr → Prop} {σ : L2.St} {H : Hp} (h : RP X e ρ Q) (m : MutU U H) (E : EnvR X.K U ρ σ H) : WP X e σ H fun r H' => Same H H' ∧ Q r := by
  obtain ⟨t, pt, ht⟩ := h U σ H m E
  exact fun pins s I => pt.run pins s σ H _ I ht
/-- what a slice is: a new list of items that hold no list, a new list of frozen ones, a text -/
abbrev SlD (ρ : DEnv) (o : DE) (lo hi : Option Int) (Q : DE → Prop) : Prop := ∃ d, dat ρ o = some d ∧ match d with
  | .list ds => (lfs ds = true ∧ Q (.ow (.list (cutD ds lo hi)))) ∨ (frd ρ o (.list ds) ∧ Q (.fz (.list (cutD ds lo hi))))
  | .str z => z.length ≤ sizeLine ∧ Q (.fz (.str (cutS z lo hi)))
  | _ => False
theorem lfs_drop : ∀ (n : Nat) {xs : List PyData}, lfs xs = true → lfs (xs.drop n) = true
  | 0, _, h => h
  | n + 1, [], h => h
  | n + 1, x :: xs, h => by
    rw [lfs, Bool.and_eq_true] at h
    exact lfs_drop n h.2
theorem lfs_take : ∀ (n : Nat) {xs : List PyData}, lfs xs = true → lfs (xs.take n) = true
  | 0, _, h => rfl
  | n + 1, [], h => h
  | n + 1, x :: xs, h => by
    rw [lfs, Bool.and_eq_true] at h
    rw [List.take_succ_cons, lfs, Bool.and_eq_true]
    exact ⟨h.1, lfs_take n h.2⟩
theorem lfs_cut {xs : List PyData} (h : lfs xs = true) (lo hi : Option Int) : lfs (cutD xs lo hi) = true := lfs_take _ (lfs_drop _ h)
theorem rd_slice {lo hi : Option Expr} {Q : DE → Prop} (h : RD X a ρ fun o => RP X lo ρ fun l => RP X hi ρ fun u => SlD ρ o l u Q) : RD X (.Subscript a (.Slice lo hi none p2) pos) ρ Q := fun U σ H m E => by
  refine we_of (pe_slice (sl_list.or sl_str) pe_w po_w po_w) (we_mono (h U σ H m E) fun v H1 ⟨e1, o, r, h2⟩ => ?_)
  refine wp_mono (rp_run h2 (m.mono e1) (envR_same E e1)) fun l H2 ⟨e2, h3⟩ => wp_mono (rp_run h3 (m.mono (e1.trans e2)) (envR_same E (e1.trans e2))) fun u H3 ⟨e3, d, hd, q⟩ => ?_
  have e13 : Same H H3 := (e1.trans e2).trans e3
  have pd : Rp X.K H3 v d := dp_sub (e2.trans e3) _ _ (res_dp E e1 r hd)
  cases d with
  | list ds =>
    rcases q with ⟨hl, q⟩ | ⟨hf, q⟩
    · cases pd with
      | lst g1 g2 =>
        refine .inl ⟨_, _, rfl, g1, fun p hp => ⟨e13.trans (same_new hp), .ow (.list (cutD ds l u)), ?_, q⟩⟩
        obtain ⟨S, s1, s2, s3⟩ := ow_new (K := X.K) hp (dps_cut g2 l u) (lfs_cut hl l u)
        exact ⟨S, s1, s2, fun a z => e13.free (s3 a z)⟩
    · have pf := frd_dp m E e1 r hf
      have pf3 : Rp X.K (Hide H3 U) v (.list ds) := dp_sub (hide_same (e2.trans e3) fun _ _ _ z => z) _ _ pf
      cases pf3 with
      | lst g1 g2 =>
        refine .inl ⟨_, _, rfl, Same.seq hide_sub g1, fun p hp => ⟨e13.trans (same_new hp), .fz (.list (cutD ds l u)), ?_, q⟩⟩
        have nU : ¬ U p := fun z => by
          have q := (m.mono e13) p z
          rw [hp] at q
          exact q
        exact .lst (.inl (.inl (hide_some.mpr ⟨nU, upd_same⟩))) (dps_sub (hide_same (same_new hp) fun _ _ _ z => z) _ _ (dps_cut g2 l u))
  | str z =>
    obtain ⟨hz, q⟩ := q
    cases pd
    exact .inr ⟨z, rfl, hz, e13, .fz (.str (cutS z l u)), Rp.str _, q⟩
  | _ => exact q.elim
/-- xs[::-1] -/
theorem rd_rev {k : Nat} {p1 p3 p4 : Pos} {Q : DE → Prop} (h : RD X a ρ fun o => ∃ ds, dat ρ o = some (.list ds) ∧ ((lfs ds = true ∧ Q (.ow (.list ds.reverse))) ∨ (frd ρ o (.list ds) ∧ Q (.fz (.list ds.reverse))))) : RD X (.Subscript a (.Slice none none (some (.UnaryOp .USub (.Constant (.int 1) k p1) p3)) p4) pos) ρ Q := fun U σ H m E => by
  refine we_of (pe_revL pe_w) (we_mono (h U σ H m E) fun v H1 ⟨e1, o, r, ds, hd, q⟩ => ?_)
  have pd := res_dp E e1 r hd
  have rv : lfs ds = true → lfs ds.reverse = true := fun h => by
    have hm : ∀ (xs : List PyData), lfs xs = true ↔ ∀ d ∈ xs, lf d = true := fun xs => by
      induction xs with
      | nil => simp [lfs]
      | cons x xs ih => simp [lfs, ih]
    rw [hm] at h ⊢
    intro d hd
    exact h d (List.mem_reverse.mp hd)
  rcases q with ⟨hl, q⟩ | ⟨hf, q⟩
  · cases pd with
    | lst g1 g2 =>
      refine ⟨_, _, rfl, g1, fun p hp => ⟨e1.trans (same_new hp), .ow (.list ds.reverse), ?_, q⟩⟩
      obtain ⟨S, s1, s2, s3⟩ := ow_new (K := X.K) hp (dps_rev g2) (rv hl)
      exact ⟨S, s1, s2, fun a z => e1.free (s3 a z)⟩
  · have pf := frd_dp m E e1 r hf
    cases pf with
    | lst g1 g2 =>
      refine ⟨_, _, rfl, Same.seq hide_sub g1, fun p hp => ⟨e1.trans (same_new hp), .fz (.list ds.reverse), ?_, q⟩⟩
      have nU : ¬ U p := fun z => by
        have q := (m.mono e1) p z
        rw [hp] at q
        exact q
      exact .lst (.inl (.inl (hide_some.mpr ⟨nU, upd_same⟩))) (dps_sub (hide_same (same_new hp) fun _ _ _ z => z) _ _ (dps_rev g2))
end
end DL
namespace DL
open PySem PySem.Spec PyProof.Rows L2

/-! ### short forms -/
section
variable {X : Cx} {ρ : DEnv} {D D' : DEnds} {a b c e : Expr} {es rest : List Expr} {pos p : Pos} {x : Str}
theorem hu65 {k : Nat} {A : Around} (hr : Room k A) : A.units + 65 < cLine := by
  have := hr.un
  omega
theorem rd_nF (i : Nat) {d : PyData} {Q : DE → Prop} (ho : ρ[i]? = some (.fz d)) (q : Q (.fz d))
    (hN : X.N[i]? = some x := by rfl) (hv : Vis X.env.scope x := by first | exact Or.inl rfl | exact Or.inr (Or.inl rfl) | exact Or.inr (Or.inr rfl)) (hd : (x == ("__debug__" : Str)) = false := by decide) (hcd : (x == ("__classdict__" : Str)) = false := by decide) : RD X (.Name x pos) ρ Q := rd_name i ho q hN hv hd hcd
theorem rd_nO (i : Nat) {d : PyData} {Q : DE → Prop} (ho : ρ[i]? = some (.ow d)) (q : Q (.al i []))
    (hN : X.N[i]? = some x := by rfl) (hv : Vis X.env.scope x := by first | exact Or.inl rfl | exact Or.inr (Or.inl rfl) | exact Or.inr (Or.inr rfl)) (hd : (x == ("__debug__" : Str)) = false := by decide) (hcd : (x == ("__classdict__" : Str)) = false := by decide) : RD X (.Name x pos) ρ Q := rd_name i ho q hN hv hd hcd
theorem rd_nA (i : Nat) {j : Nat} {p : List Nat} {Q : DE → Prop} (ho : ρ[i]? = some (.al j p)) (q : Q (.al j p))
    (hN : X.N[i]? = some x := by rfl) (hv : Vis X.env.scope x := by first | exact Or.inl rfl | exact Or.inr (Or.inl rfl) | exact Or.inr (Or.inr rfl)) (hd : (x == ("__debug__" : Str)) = false := by decide) (hcd : (x == ("__classdict__" : Str)) = false := by decide) : RD X (.Name x pos) ρ Q := rd_name i ho q hN hv hd hcd
theorem rv_nF (i : Nat) {d : PyData} {Q : PyData → Prop} (ho : ρ[i]? = some (.fz d)) (q : Q d)
    (hN : X.N[i]? = some x := by rfl) (hv : Vis X.env.scope x := by first | exact Or.inl rfl | exact Or.inr (Or.inl rfl) | exact Or.inr (Or.inr rfl)) (hd : (x == ("__debug__" : Str)) = false := by decide) (hcd : (x == ("__classdict__" : Str)) = false := by decide) : RV X (.Name x pos) ρ Q := rv_of (rd_name i ho ⟨d, rfl, q⟩ hN hv hd hcd)
theorem rv_nO (i : Nat) {d : PyData} {Q : PyData → Prop} (ho : ρ[i]? = some (.ow d)) (q : Q d)
    (hN : X.N[i]? = some x := by rfl) (hv : Vis X.env.scope x := by first | exact Or.inl rfl | exact Or.inr (Or.inl rfl) | exact Or.inr (Or.inr rfl)) (hd : (x == ("__debug__" : Str)) = false := by decide) (hcd : (x == ("__classdict__" : Str)) = false := by decide) : RV X (.Name x pos) ρ Q := rv_of (rd_name i ho ⟨d, by
      show (match ρ[i]? with
        | some (.ow d) => subAt d []
        | _ => none) = some d
      rw [ho]
      rfl, q⟩ hN hv hd hcd)
theorem rv_int {i : Int} {j : Nat} {Q : PyData → Prop} (q : Q (.int i)) : RV X (.Constant (.int i) j pos) ρ Q := rv_of (rd_int ⟨_, rfl, q⟩)
theorem rv_bl {i : Bool} {j : Nat} {Q : PyData → Prop} (q : Q (.bool i)) : RV X (.Constant (.bool i) j pos) ρ Q := rv_of (rd_bl ⟨_, rfl, q⟩)
theorem rv_non {j : Nat} {Q : PyData → Prop} (q : Q .none) : RV X (.Constant .none j pos) ρ Q := rv_of (rd_non ⟨_, rfl, q⟩)
theorem rv_str {i : Str} {j : Nat} {Q : PyData → Prop} (q : Q (.str i)) : RV X (.Constant (.str i) j pos) ρ Q := rv_of (rd_str ⟨_, rfl, q⟩)
/-- what a call is worth, by the promise -/
theorem rv_frz {Q : PyData → Prop} (h : RV X e (frzE ρ) Q) : RV X e ρ Q := fun U σ H m E => by
  have E0 : EnvR X.K (fun _ => False) (frzE ρ) σ H := envR_frz E fun b o e => hide_some.mpr ⟨fun z => z, e⟩
  exact h (fun _ => False) σ H (fun a z => z.elim) E0
theorem rt_frz {Q : Bool → Prop} (h : RT X e (frzE ρ) Q) : RT X e ρ Q := fun U σ H m E => by
  have E0 : EnvR X.K (fun _ => False) (frzE ρ) σ H := envR_frz E fun b o e => hide_some.mpr ⟨fun z => z, e⟩
  exact h (fun _ => False) σ H (fun a z => z.elim) E0
/-- all frozen while e is reckoned: what comes is new, or holds no list -/
theorem rd_frz {Q : DE → Prop} (h : RD X e (frzE ρ) fun o => ∃ d, owd (frzE ρ) o d ∧ Q (nrm d)) : RD X e ρ Q := fun U σ H m E => by
  have E0 : EnvR X.K (fun _ => False) (frzE ρ) σ H := envR_frz E fun b o e => hide_some.mpr ⟨fun z => z, e⟩
  refine we_mono (h (fun _ => False) σ H (fun a z => z.elim) E0) fun v H' ⟨e', o, r, d, hd, q⟩ => ?_
  obtain ⟨S, o1, n1, f1⟩ := owd_own E0 e' r hd
  exact ⟨e', nrm d, res_nrm (m.mono e') o1 n1 f1, q⟩
end
end DL
namespace DL
open PySem PySem.Spec PyProof.Rows L2
section
variable {X : Cx} {ρ : DEnv} {D D' : DEnds} {a b c e : Expr} {es rest : List Expr} {pos p : Pos} {x : Str}
/-- an int that is known otherwise -/
theorem rd_arI {op : Operator} (v : Int) {Q : DE → Prop} (h : RV X a ρ fun d1 => RV X b ρ fun d2 => ∃ c z, arD op d1 d2 = some (c, .fz (.int z)) ∧ c ∧ z = v ∧ Q (.fz (.int v))) : RD X (.BinOp a op b pos) ρ Q := by
  refine rd_ar (rv_mono h fun d1 h1 => rv_mono h1 fun d2 ⟨c, z, h2, h3, h4, h5⟩ => ⟨c, _, h2, h3, ?_⟩)
  rw [h4]
  exact h5
theorem op_fdivQ : OpR X (binaryOp .FloorDiv) (rI (fun i j => j ≠ 0 ∧ Builtin.divisionGoesByPylong i j = false) fun i j => .int (i.fdiv j)) := opI fun _ _ _ _ _ _ _ hc q => floordiv_int hc.1 q (.inl hc.2)
/-- // by any divisor -/
theorem rd_fdiv {Q : DE → Prop} (h : RV X a ρ fun d1 => RV X b ρ fun d2 => ∃ i j, d1 = .int i ∧ d2 = .int j ∧ (j ≠ 0 ∧ Builtin.divisionGoesByPylong i j = false) ∧ Q (.fz (.int (i.fdiv j)))) : RD X (.BinOp a .FloorDiv b pos) ρ Q := fun U σ H m E => by
  refine we_of (pe_op op_fdivQ pe_w pe_w) (we_mono (h U σ H m E) fun x H1 ⟨e1, d1, p1, h2⟩ => we_mono (h2 U σ H1 (m.mono e1) (envR_same E e1)) fun y H2 ⟨e2, d2, p2, i, j, ed1, ed2, hc, q⟩ => ?_)
  subst ed1 ed2
  cases p1
  cases p2
  exact ⟨i, j, rfl, rfl, hc, e1.trans e2, .fz (.int _), Rp.int _, q⟩
end
end DL
namespace DL
open PySem PySem.Spec PyProof.Rows L2
section
variable {P0 : Program} {w : World} {K : PySem.W.Frag} {mg : Str → Option Value} {base : Heap}
/-- a def of the text, as the top has written it -/
def TxF (K : PySem.W.Frag) (mg : Str → Option Value) (x : Str) (st : Stmt) (ps : List Str) : Prop := ∃ f fd, Fun K x x st f fd ∧ mg x = some (.ref f) ∧ Binds K fd ps []
/-- a def that keeps its promise and may be called by its name -/
def FnC (P0 : Program) (w : World) (K : PySem.W.Frag) (mg : Str → Option Value) (base : Heap) (x : Str) (k : Nat) (P : List PyData → PyData → Prop) : Prop :=
  ∃ f fd ps, FnOk P0 w K mg base CX0 k f fd ps (spD K P) ∧ mg x = some (.ref f) ∧ PySem.W.keepIn K (.ref f) = true ∧ Binds K fd ps []
theorem callC {X : Cx} {x : Str} {P : List PyData → PyData → Prop} {k k' : Nat} (G : FnC X.prog X.w X.K X.mg X.base x k P) (hr : Room k' X.A) (hk : k ≤ k' := by decide) : CallD X x P := by
  obtain ⟨f, fd, ps, G, hm, hp, hb⟩ := G
  exact callD_mk G (hr.mono hk) hm hp hb
theorem fn_C {x : Str} {st : Stmt} {N ps : List Str} {k : Nat} {P : List PyData → PyData → Prop} (T : TxF K mg x st ps) (S : FnScope N ps (defScope st)) (har : ∀ ds d, P ds d → ds.length = ps.length)
    (body : ∀ (f : Addr) (cdv : Value) (A : Around) (outer : List Env) (s : Shared) (H : Hp) (E : XK), Room k (A.deeper (envOfC x (defScope st) s.heap.objs.size f cdv)) → ∀ ds d, P ds d →
      SD (cxOf CX0 P0 w K mg base N x (defScope st) f cdv A outer s H E).nox (defBody st) (ds.map .fz ++ List.replicate (N.length - ps.length) .un) (bodyE d)) : FnC P0 w K mg base x (k + 1) P := by
  obtain ⟨f, fd, F, hm, hb⟩ := T
  exact ⟨f, fd, ps, fn_okD F S har (body f), hm, F.kp, hb⟩
end
end DL
namespace DL
open PySem PySem.Spec PyProof.Rows L2
theorem log2_le_of {a b : Nat} (h : a ≤ b) : a.log2 ≤ b.log2 := by
  by_cases h0 : a = 0
  · subst h0; simp
  · exact (Nat.le_log2 (by omega)).mpr (Nat.le_trans (Nat.log2_self_le h0) h)
theorem noPy {x y : Int} (hx : 0 ≤ x) (hy : 0 < y) (h : x.natAbs.log2 < 9000 ∨ y.natAbs.log2 < 9000) : Builtin.divisionGoesByPylong x y = false := by
  rcases h with h | h
  · by_cases h2 : y.natAbs.log2 < 9000
    · exact PyProof.noPylong_of_log2 h2
    · unfold Builtin.divisionGoesByPylong
      by_cases h0 : x = 0
      · simp [h0]
      · simp [h0, show ¬ y = 0 by omega]
        omega
  · exact PyProof.noPylong_of_log2 h
theorem emod_log2 {x y : Int} (hx : 0 ≤ x) (hy : 0 < y) (h : x.natAbs.log2 < 9000 ∨ y.natAbs.log2 < 9000) : (x % y).natAbs.log2 < 9000 := by
  have h1 : 0 ≤ x % y := Int.emod_nonneg x (by omega)
  have h2 : x % y < y := Int.emod_lt_of_pos x hy
  rcases h with h | h
  · have h3 : x % y ≤ x := by
      have := Int.mul_ediv_add_emod x y
      have h4 : 0 ≤ y * (x / y) := Int.mul_nonneg (by omega) (Int.ediv_nonneg hx (by omega))
      omega
    exact Nat.lt_of_le_of_lt (log2_le_of (by omega)) h
  · exact Nat.lt_of_le_of_lt (log2_le_of (by omega)) h
theorem gcd_step (x y : Int) (hx : 0 ≤ x) (hy : 0 < y) : Int.gcd y (x % y) = Int.gcd x y := by
  have e : (x % y).natAbs = x.natAbs % y.natAbs := by
    have := Int.natAbs_emod_of_nonneg (b := y) hx
    exact this
  unfold Int.gcd
  rw [e, Nat.gcd_comm y.natAbs, ← Nat.gcd_rec, Nat.gcd_comm]
end DL
namespace DL
open PySem PySem.Spec PyProof.Rows L2
/-- a fraction as the text writes it -/
abbrev frD (p : Int × Int) : PyData := .tuple [.int p.1, .int p.2]
def lcmL (ns : List Nat) : Nat := ns.foldl Nat.lcm 1
theorem foldl_lcm (a : Nat) : ∀ ns : List Nat, ns.foldl Nat.lcm a = Nat.lcm a (lcmL ns)
  | [] => by simp [lcmL]
  | n :: ns => by
    unfold lcmL
    rw [List.foldl_cons, List.foldl_cons, foldl_lcm (Nat.lcm a n) ns, foldl_lcm (Nat.lcm 1 n) ns, Nat.lcm_one_left, Nat.lcm_assoc]
theorem lcmL_nil : lcmL [] = 1 := rfl
theorem lcmL_cons (n : Nat) (ns : List Nat) : lcmL (n :: ns) = Nat.lcm n (lcmL ns) := by
  show (n :: ns).foldl Nat.lcm 1 = _
  rw [List.foldl_cons, foldl_lcm, Nat.lcm_one_left]
theorem lcmL_app (xs ys : List Nat) : lcmL (xs ++ ys) = Nat.lcm (lcmL xs) (lcmL ys) := by
  show (xs ++ ys).foldl Nat.lcm 1 = _
  rw [List.foldl_append, foldl_lcm]
  rfl
theorem lcmL_pos {ns : List Nat} (h : ∀ n ∈ ns, 0 < n) : 0 < lcmL ns := by
  induction ns with
  | nil => decide
  | cons n ns ih =>
    rw [lcmL_cons]
    exact Nat.lcm_pos (h n (List.mem_cons_self ..)) (ih fun m hm => h m (List.mem_cons_of_mem _ hm))
theorem lcmL_take {ns : List Nat} {k n : Nat} (h : ns[k]? = some n) : lcmL (ns.take (k + 1)) = Nat.lcm (lcmL (ns.take k)) n := by
  rw [List.take_add_one, h, lcmL_app]
  show Nat.lcm _ (Nat.lcm 1 n) = _
  rw [Nat.lcm_one_left]
theorem lcmL_take_dvd (ns : List Nat) (k : Nat) : lcmL (ns.take k) ∣ lcmL ns := by
  have := lcmL_app (ns.take k) (ns.drop k)
  rw [List.take_append_drop] at this
  rw [this]
  exact Nat.dvd_lcm_left _ _
theorem lcmL_dvd {ns : List Nat} {n : Nat} (h : n ∈ ns) : n ∣ lcmL ns := by
  induction ns with
  | nil => cases h
  | cons m ns ih =>
    rw [lcmL_cons]
    rcases List.mem_cons.mp h with rfl | h
    · exact Nat.dvd_lcm_left _ _
    · exact Nat.dvd_trans (ih h) (Nat.dvd_lcm_right _ _)
theorem lcmL_least {ns : List Nat} {m : Nat} (h : ∀ n ∈ ns, n ∣ m) : lcmL ns ∣ m := by
  induction ns with
  | nil => exact Nat.one_dvd m
  | cons n ns ih =>
    rw [lcmL_cons]
    exact Nat.lcm_dvd (h n (List.mem_cons_self ..)) (ih fun k hk => h k (List.mem_cons_of_mem _ hk))
theorem lcmL_mem {xs ys : List Nat} (h : ∀ n, n ∈ xs ↔ n ∈ ys) : lcmL xs = lcmL ys :=
  Nat.dvd_antisymm (lcmL_least fun n hn => lcmL_dvd ((h n).mp hn)) (lcmL_least fun n hn => lcmL_dvd ((h n).mpr hn))
/-- a size that no division and no product minds -/
abbrev Sm (i : Int) : Prop := i.natAbs.log2 < 9000
theorem Sm.mono {i j : Int} (h : Sm j) (l : i.natAbs ≤ j.natAbs) : Sm i := Nat.lt_of_le_of_lt (log2_le_of l) h
theorem Sm.dvd {i j : Int} (h : Sm j) (j0 : j ≠ 0) (l : i ∣ j) : Sm i := h.mono (Nat.le_of_dvd (by omega) (Int.natAbs_dvd_natAbs.mpr l))
theorem Sm.mul {i j : Int} (h : Sm i) (h2 : Sm j) : CMulW i j := by
  unfold CMulW
  have h' : i.natAbs.log2 < 9000 := h
  have h2' : j.natAbs.log2 < 9000 := h2
  omega
theorem Sm.div {i j : Int} (h : Sm j) (j0 : 0 < j) : CDivP i j := ⟨j0, PyProof.noPylong_of_log2 h⟩
theorem sm_nat {n b : Nat} (h : n ≤ b) (hb : b.log2 < 9000) : Sm (n : Int) := Nat.lt_of_le_of_lt (log2_le_of (by simpa using h)) hb
theorem lcm_step (a b : Nat) : (a : Int) / (Int.gcd a b : Int) * (b : Int) = (Nat.lcm a b : Nat) := by
  rw [show Int.gcd (a : Int) (b : Int) = Nat.gcd a b from rfl]
  unfold Nat.lcm
  rw [show (a : Int) / (Nat.gcd a b : Int) = ((a / Nat.gcd a b : Nat) : Int) from rfl, ← Int.natCast_mul]
  congr 1
  rw [Nat.div_mul_right_comm (Nat.gcd_dvd_left a b)]
end DL
namespace DL
open PySem PySem.Spec PyProof.Rows L2
theorem get_map {α β : Type} {f : α → β} {xs : List α} {k : Nat} {d : β} (h : (xs.map f)[k]? = some d) : ∃ p, xs[k]? = some p ∧ f p = d := by
  rw [List.getElem?_map] at h
  exact Option.map_eq_some_iff.mp h
/-! ### a promise by a relation -/
def spN (K : PySem.W.Frag) (Pre : List PyData → Prop) (Post : List PyData → PyData → Prop) : Sp := fun vs H Q _ => ∃ ds, RpAll K H vs ds ∧ Pre ds ∧ ∀ d v H' S, Post ds d → Same H H' → OwnR K H' v d S → S.Nodup → (∀ a ∈ S, H a = none) → Q v H'
def bodyN (Post : PyData → Prop) : DEnds where
  nx := fun _ => Post .none
  rt := fun o => ∃ d, (o = .ow d ∨ (o = .fz d ∧ lf d = true)) ∧ Post d
section
variable {P0 : Program} {w : World} {K : PySem.W.Frag} {mg : Str → Option Value} {base : Heap}
def FnN (P0 : Program) (w : World) (K : PySem.W.Frag) (mg : Str → Option Value) (base : Heap) (x : Str) (k : Nat) (Pre : List PyData → Prop) (Post : List PyData → PyData → Prop) : Prop :=
  ∃ f fd ps, FnOk P0 w K mg base CX0 k f fd ps (spN K Pre Post) ∧ mg x = some (.ref f) ∧ PySem.W.keepIn K (.ref f) = true ∧ Binds K fd ps []
theorem fn_N {x : Str} {st : Stmt} {N ps : List Str} {k : Nat} {Pre : List PyData → Prop} {Post : List PyData → PyData → Prop} (T : TxF K mg x st ps) (S : FnScope N ps (defScope st)) (har : ∀ ds, Pre ds → ds.length = ps.length)
    (body : ∀ (f : Addr) (cdv : Value) (A : Around) (outer : List Env) (s : Shared) (H : Hp) (E : XK), Room k (A.deeper (envOfC x (defScope st) s.heap.objs.size f cdv)) → ∀ ds, Pre ds →
      SD (cxOf CX0 P0 w K mg base N x (defScope st) f cdv A outer s H E).nox (defBody st) (ds.map .fz ++ List.replicate (N.length - ps.length) .un) (bodyN (Post ds))) : FnN P0 w K mg base x (k + 1) Pre Post := by
  obtain ⟨f, fd, F, hm, hbi⟩ := T
  refine ⟨f, fd, ps, ?_, hm, F.kp, hbi⟩
  refine F.ok S (fun vs H Q E ⟨ds, h1, h2, _⟩ => by rw [dps_len h1, har _ h2]) (fun cdv A outer s H vs Q E hr ⟨ds, h1, h2, h3⟩ => ?_)
  refine ⟨_, pb_w, ?_⟩
  have hN : ps.length ≤ N.length := by
    have e := S.pre
    rw [← e, List.length_take]
    exact Nat.min_le_right _ _
  have b := body f cdv A outer s H E hr ds h2 H (fun _ => False) (L2.start N vs) H (fun a z => z.elim) ⟨_, st_start h1 (by rw [har _ h2]; omega)⟩
  have fin : ∀ v H', (Same H H' ∧ ∃ o, RetR K H (fun _ => False) H' v o ∧ (bodyN (Post ds)).rt o) → Q v H' := fun v H' ⟨e, o, r, d, q, hp⟩ => by
    rcases q with q | ⟨q, hl⟩
    · subst q
      obtain ⟨T, a, b, c⟩ := r
      exact h3 d v H' T hp e a b c
    · subst q
      exact h3 d v H' [] hp e (.flt (dp_sub hide_sub _ _ r) hl) .nil (fun a z => by cases z)
  exact wb_mono b (fun σ' H' ⟨ρ', ⟨F', s'⟩, q⟩ => fin .non H' ⟨s'.same, .fz .none, Rp.non, .none, .inr ⟨rfl, rfl⟩, q⟩) fin (fun _ _ ⟨_, _, q⟩ => False.elim q) (fun _ _ ⟨_, _, q⟩ => False.elim q)
end
/-- a def that may be called by its name x -/
structure CallN (X : Cx) (x : Str) (Pre : List PyData → Prop) (Post : List PyData → PyData → Prop) : Prop where
  ex : ∃ (CX : CXT) (k : Nat) (f : Addr) (fd : FuncData) (ps : List Str), FnOk X.prog X.w X.K X.mg X.base CX k f fd ps (spN X.K Pre Post) ∧ Room k X.A ∧ X.mg x = some (.ref f) ∧ PySem.W.keepIn X.K (.ref f) = true ∧
    Binds X.K fd ps [] ∧ ∀ (Y : Cx), Y.prog = X.prog → Y.w = X.w → Passes CX Y E0
theorem callN {X : Cx} {x : Str} {Pre : List PyData → Prop} {Post : List PyData → PyData → Prop} {k k' : Nat} (G : FnN X.prog X.w X.K X.mg X.base x k Pre Post) (hr : Room k' X.A) (hk : k ≤ k' := by decide) : CallN X x Pre Post := by
  obtain ⟨f, fd, ps, G, hm, hp, hb⟩ := G
  exact ⟨_, k, f, fd, ps, G, hr.mono hk, hm, hp, hb, fun _ _ _ => pass0⟩
section
variable {X : Cx} {ρ : DEnv} {a b c : Expr} {es rest : List Expr} {pos p : Pos} {x : Str}
theorem rd_callN {Pre : List PyData → Prop} {Post : List PyData → PyData → Prop} {Q : DE → Prop} (C : CallN X x Pre Post) (h : RA X (a :: es) ρ fun ds => Pre ds ∧ ∀ d, Post ds d → Q (nrm d)) (hg : Gl X x := by rfl)
    (hdb : (x == ("__debug__" : Str)) = false := by decide) (he : starEach (a :: es) X.env = (false, eval a X.env) :: starEach es X.env := by rfl) (hpl : (backTo pos (starEach es X.env)).any (·.1) = false := by rfl) : RD X (.Call (.Name x p) (a :: es) [] pos) ρ Q := fun U σ H m E => by
  obtain ⟨CX, k, f, fd, ps, F, hr, hm, hk, hb, hx⟩ := C.ex
  refine we_of (pe_call F hr hg hm hk hb .nil (hx X rfl rfl) pa_w hdb he hpl) (wa_mono (h U σ H m E) fun vs H1 ⟨e1, ds, pp, hp, q⟩ => ?_)
  rw [List.append_nil]
  refine ⟨ds, pp, hp, fun d v H' S h s o n f => ⟨e1.trans s, nrm d, ?_, q d h⟩⟩
  exact res_nrm (m.mono (e1.trans s)) o n fun a h => e1.free (f a h)
end
/-! ### sizes -/
theorem cdiv_s {i j : Int} (h : 0 < j) (h2 : j < 2 ^ 64) : CDivP i j := by
  refine Sm.div ?_ h
  have : j.natAbs ≤ 2 ^ 64 := by omega
  exact Nat.lt_of_le_of_lt (log2_le_of this) (by decide)
theorem cmul_s {i j : Int} (h : i.natAbs < 2 ^ 64) (h2 : j.natAbs < 2 ^ 64) : CMulW i j := by
  refine Sm.mul ?_ ?_
  · exact Nat.lt_of_le_of_lt (log2_le_of (Nat.le_of_lt h)) (by decide)
  · exact Nat.lt_of_le_of_lt (log2_le_of (Nat.le_of_lt h2)) (by decide)
theorem rng_get {lo : Int} {n k : Nat} {d : PyData} (h : (rngD lo n)[k]? = some d) : d = .int (lo + (k : Nat)) ∧ k < n := by
  obtain ⟨p, h1, rfl⟩ := get_map h
  obtain ⟨h2, h3⟩ := List.getElem?_eq_some_iff.mp h1
  rw [List.length_range] at h2
  rw [List.getElem_range] at h3
  subst h3
  exact ⟨rfl, h2⟩
theorem zipD_get {xs ys : List PyData} {k : Nat} {d : PyData} (h : (zipD xs ys)[k]? = some d) : ∃ x y, xs[k]? = some x ∧ ys[k]? = some y ∧ d = .tuple [x, y] := by
  obtain ⟨p, h1, rfl⟩ := get_map h
  obtain ⟨h2, h3⟩ := List.getElem?_zip_eq_some.mp h1
  exact ⟨_, _, h2, h3, rfl⟩
theorem zip_len {xs ys : List PyData} (h : xs.length = ys.length) : (zipD xs ys).length = xs.length := by
  unfold zipD
  rw [List.length_map, List.length_zip, h, Nat.min_self]
theorem lfs_ints : ∀ (ns : List Int), lfs (ns.map .int) = true
  | [] => rfl
  | _ :: ns => lfs_ints ns
end DL
namespace DL
open PySem PySem.Spec PyProof.Rows L2
section
variable {X : Cx} {ρ : DEnv} {D : DEnds} {a b c e : Expr} {es rest : List Expr} {pos p : Pos} {x : Str} {st : Stmt} {sts : List Stmt}
/-! ### joins, known tests -/
theorem sd_join (J : DEnv → Prop) (h : S1 X st ρ { D with nx := J }) (q : ∀ ρ', J ρ' → SD X sts ρ' D) : SD X (st :: sts) ρ D :=
  sd_cons fun B W σ H hW s => ws_mono (h B W σ H hW s) (fun _ _ ⟨ρ', s', j⟩ => ⟨ρ', s', q ρ' j⟩) (fun _ _ z => z) (fun _ _ z => z) (fun _ _ z => z)
theorem s_ifF {a b : List Stmt} (h : RT X c ρ fun r => r = false) (q : SD X b ρ D) : S1 X (.If c a b pos) ρ D :=
  s_if (rt_mono h fun r e => ⟨fun e' => (by rw [e] at e'; cases e'), fun _ => q⟩)
theorem s_ifT {a b : List Stmt} (h : RT X c ρ fun r => r = true) (q : SD X a ρ D) : S1 X (.If c a b pos) ρ D :=
  s_if (rt_mono h fun r e => ⟨fun _ => q, fun e' => by rw [e] at e'; cases e'⟩)
theorem rt_eq (v : Bool) {Q : Bool → Prop} (h : RT X c ρ fun r => r = v) (q : Q v) : RT X c ρ Q := rt_mono h fun r e => by rw [e]; exact q
theorem rt_notK {v : Bool} (h : RT X a ρ fun r => r = !v) : RT X (.UnaryOp .Not a pos) ρ fun r => r = v := rt_not (rt_mono h fun r e => by rw [e, Bool.not_not])
theorem rw_orF {Q : Bool → Prop} (h : RT X a ρ fun r => r = false) (q : RW X (.BoolOp .Or (b :: rest) pos) ρ Q) : RW X (.BoolOp .Or (a :: b :: rest) pos) ρ Q :=
  rw_or (rt_mono h fun r e => ⟨fun e' => (by rw [e] at e'; cases e'), fun _ => q⟩)
theorem rw_orT {Q : Bool → Prop} (h : RT X a ρ fun r => r = true) (q : Q true) : RW X (.BoolOp .Or (a :: b :: rest) pos) ρ Q :=
  rw_or (rt_mono h fun r e => ⟨fun _ => q, fun e' => by rw [e] at e'; cases e'⟩)
theorem rw_andT {Q : Bool → Prop} (h : RT X a ρ fun r => r = true) (q : RW X (.BoolOp .And (b :: rest) pos) ρ Q) : RW X (.BoolOp .And (a :: b :: rest) pos) ρ Q :=
  rw_and (rt_mono h fun r e => ⟨fun e' => (by rw [e] at e'; cases e'), fun _ => q⟩)
theorem rw_andF {Q : Bool → Prop} (h : RT X a ρ fun r => r = false) (q : Q false) : RW X (.BoolOp .And (a :: b :: rest) pos) ρ Q :=
  rw_and (rt_mono h fun r e => ⟨fun _ => q, fun e' => by rw [e] at e'; cases e'⟩)
theorem rd_andT {Q : DE → Prop} (h : RV X a ρ fun d => d = .bool true) (q : RD X (.BoolOp .And (b :: rest) pos) ρ Q) : RD X (.BoolOp .And (a :: b :: rest) pos) ρ Q :=
  rd_and (rv_mono h fun d e => ⟨true, e, (fun e' => nomatch e'), fun _ => q⟩)
theorem rd_orF {Q : DE → Prop} (h : RV X a ρ fun d => d = .bool false) (q : RD X (.BoolOp .Or (b :: rest) pos) ρ Q) : RD X (.BoolOp .Or (a :: b :: rest) pos) ρ Q :=
  rd_or (rv_mono h fun d e => ⟨false, e, (fun e' => nomatch e'), fun _ => q⟩)
/-! ### plain data of small depth -/
def Pl (n : Nat) (d : PyData) : Prop := d.plain = true ∧ d.depth ≤ n
theorem pl_int {n : Nat} {i : Int} : Pl n (.int i) := ⟨rfl, Nat.zero_le _⟩
theorem pl_bool {n : Nat} {i : Bool} : Pl n (.bool i) := ⟨rfl, Nat.zero_le _⟩
theorem pl_none {n : Nat} : Pl n .none := ⟨rfl, Nat.zero_le _⟩
theorem pl_str {n : Nat} {i : Str} : Pl n (.str i) := ⟨rfl, Nat.zero_le _⟩
theorem pl_all {n : Nat} : ∀ {xs : List PyData}, (∀ x ∈ xs, Pl n x) → PyData.plainAll xs = true ∧ PyData.depthAll xs ≤ n
  | [], _ => ⟨rfl, Nat.zero_le _⟩
  | x :: xs, h => by
    obtain ⟨h1, h2⟩ := pl_all (xs := xs) fun y hy => h y (List.mem_cons_of_mem _ hy)
    obtain ⟨h3, h4⟩ := h x (List.mem_cons_self ..)
    refine ⟨?_, ?_⟩
    · simp only [PyData.plainAll, h1, h3, Bool.and_self]
    · simp only [PyData.depthAll]
      omega
theorem pl_list {n : Nat} {xs : List PyData} (h : ∀ x ∈ xs, Pl n x) : Pl (n + 1) (.list xs) := by
  obtain ⟨h1, h2⟩ := pl_all h
  exact ⟨by simpa only [PyData.plain] using h1, by simp only [PyData.depth]; omega⟩
theorem pl_tup {n : Nat} {xs : List PyData} (h : ∀ x ∈ xs, Pl n x) : Pl (n + 1) (.tuple xs) := by
  obtain ⟨h1, h2⟩ := pl_all h
  exact ⟨by simpa only [PyData.plain] using h1, by simp only [PyData.depth]; omega⟩
theorem pl_map {α : Type} {n : Nat} {xs : List α} {f : α → PyData} (h : ∀ x ∈ xs, Pl n (f x)) : Pl (n + 1) (.list (xs.map f)) :=
  pl_list fun y hy => by
    obtain ⟨x, hx, rfl⟩ := List.mem_map.mp hy
    exact h x hx
theorem pl_ints {n : Nat} {ns : List Int} : Pl (n + 1) (.list (ns.map .int)) := pl_map fun _ _ => pl_int
theorem pl_fr {n : Nat} {p : Int × Int} : Pl (n + 1) (frD p) := pl_tup fun x hx => by
  rcases List.mem_cons.mp hx with rfl | hx
  · exact pl_int
  · rcases List.mem_cons.mp hx with rfl | hx
    · exact pl_int
    · cases hx
theorem Pl.mono {m n : Nat} {d : PyData} (h : Pl m d) (l : m ≤ n) : Pl n d := ⟨h.1, Nat.le_trans h.2 l⟩
theorem cm_same {d : PyData} (h : Pl 60 d) : ∃ k, cmD .Eq d d = some (k, true) ∧ k := by
  have e := PySem.SeqAt.eqv_refl_plain d h.1
  have dp : min d.depth d.depth ≤ 60 := by
    have := h.2
    omega
  cases d with
  | int i => exact ⟨True, by simp [cmD], trivial⟩
  | none => exact ⟨_, by simp only [cmD, e], dp⟩
  | bool _ => exact ⟨_, by simp only [cmD, e], dp⟩
  | str _ => exact ⟨_, by simp only [cmD, e], dp⟩
  | list _ => exact ⟨_, by simp only [cmD, e], dp⟩
  | tuple _ => exact ⟨_, by simp only [cmD, e], dp⟩
  | dict _ => exact ⟨_, by simp only [cmD, e], dp⟩
theorem cm_nsame {d : PyData} (h : Pl 60 d) : ∃ k, cmD .NotEq d d = some (k, false) ∧ k := by
  have e := PySem.SeqAt.eqv_refl_plain d h.1
  have dp : min d.depth d.depth ≤ 60 := by
    have := h.2
    omega
  cases d with
  | int i => exact ⟨True, by simp [cmD], trivial⟩
  | none => exact ⟨_, by simp only [cmD, e, Bool.not_true], dp⟩
  | bool _ => exact ⟨_, by simp only [cmD, e, Bool.not_true], dp⟩
  | str _ => exact ⟨_, by simp only [cmD, e, Bool.not_true], dp⟩
  | list _ => exact ⟨_, by simp only [cmD, e, Bool.not_true], dp⟩
  | tuple _ => exact ⟨_, by simp only [cmD, e, Bool.not_true], dp⟩
  | dict _ => exact ⟨_, by simp only [cmD, e, Bool.not_true], dp⟩
/-- == of what is the same -/
theorem rt_same {Q : Bool → Prop} (hu : X.A.units + 65 < cLine) (h : RV X a ρ fun d1 => RV X b ρ fun d2 => d1 = d2 ∧ Pl 60 d2 ∧ Q true) (hm : behindInMarks .Eq b = false := by first | exact nomark _ | rfl) : RT X (.Compare a [.Eq] [b] pos) ρ Q :=
  rt_cmp hu (rv_mono h fun d1 h => rv_mono h fun d2 ⟨e, hp, q⟩ => by
    subst e
    obtain ⟨k, h1, h2⟩ := cm_same hp
    exact ⟨k, true, h1, h2, q⟩) hm
theorem rt_nsame {Q : Bool → Prop} (hu : X.A.units + 65 < cLine) (h : RV X a ρ fun d1 => RV X b ρ fun d2 => d1 = d2 ∧ Pl 60 d2 ∧ Q false) (hm : behindInMarks .NotEq b = false := by first | exact nomark _ | rfl) : RT X (.Compare a [.NotEq] [b] pos) ρ Q :=
  rt_cmp hu (rv_mono h fun d1 h => rv_mono h fun d2 ⟨e, hp, q⟩ => by
    subst e
    obtain ⟨k, h1, h2⟩ := cm_nsame hp
    exact ⟨k, false, h1, h2, q⟩) hm
theorem rd_same {Q : DE → Prop} (hu : X.A.units + 65 < cLine) (h : RV X a ρ fun d1 => RV X b ρ fun d2 => d1 = d2 ∧ Pl 60 d2 ∧ Q (.fz (.bool true))) (hm : behindInMarks .Eq b = false := by first | exact nomark _ | rfl) : RD X (.Compare a [.Eq] [b] pos) ρ Q :=
  rd_cmp hu (rv_mono h fun d1 h => rv_mono h fun d2 ⟨e, hp, q⟩ => by
    subst e
    obtain ⟨k, h1, h2⟩ := cm_same hp
    exact ⟨k, true, h1, h2, q⟩) hm
theorem rd_nsame {Q : DE → Prop} (hu : X.A.units + 65 < cLine) (h : RV X a ρ fun d1 => RV X b ρ fun d2 => d1 = d2 ∧ Pl 60 d2 ∧ Q (.fz (.bool false))) (hm : behindInMarks .NotEq b = false := by first | exact nomark _ | rfl) : RD X (.Compare a [.NotEq] [b] pos) ρ Q :=
  rd_cmp hu (rv_mono h fun d1 h => rv_mono h fun d2 ⟨e, hp, q⟩ => by
    subst e
    obtain ⟨k, h1, h2⟩ := cm_nsame hp
    exact ⟨k, false, h1, h2, q⟩) hm
end
end DL
namespace DL
open PySem PySem.Spec PyProof.Rows L2
theorem atI_ints (ns : List Int) (i : Int) (h : 0 ≤ i) (h2 : i < ns.length) : ∃ v, v ∈ ns ∧ atI (ns.map PyData.int) i = some (PyData.int v) := by
  have hlt : i.toNat < ns.length := by omega
  refine ⟨ns[i.toNat], List.getElem_mem hlt, ?_⟩
  have e : i = (i.toNat : Int) := by omega
  have := atI_nat (xs := ns.map PyData.int) (j := i.toNat) (v := PyData.int ns[i.toNat]) (by rw [List.getElem?_map, List.getElem?_eq_getElem hlt]; rfl)
  rw [← e] at this
  exact this
end DL
namespace DL
open PySem PySem.Spec PyProof.Rows L2
theorem sum_ge : ∀ {ns : List Int}, (∀ n ∈ ns, 0 ≤ n) → ∀ n ∈ ns, n ≤ ns.sum
  | [], _, _, h => by cases h
  | m :: ns, h0, n, h => by
    have hs : ∀ {xs : List Int}, (∀ x ∈ xs, 0 ≤ x) → 0 ≤ xs.sum := by
      intro xs hx
      induction xs with
      | nil => simp
      | cons a r ih =>
        rw [List.sum_cons]
        have := hx a (List.mem_cons_self ..)
        have := ih fun x h => hx x (List.mem_cons_of_mem _ h)
        omega
    rw [List.sum_cons]
    have h1 := h0 m (List.mem_cons_self ..)
    have h2 := hs fun x hx => h0 x (List.mem_cons_of_mem _ hx)
    rcases List.mem_cons.mp h with rfl | h
    · omega
    · have := sum_ge (fun x hx => h0 x (List.mem_cons_of_mem _ hx)) n h
      omega
theorem sm_lt {i : Int} (h : i.natAbs ≤ 2 ^ 200) : Sm i := Nat.lt_of_le_of_lt (log2_le_of h) (by rw [Nat.log2_two_pow]; decide)
end DL
namespace DL
open PySem PySem.Spec PyProof.Rows L2
/-! ### frozen in, frozen out -/
theorem st_startF {K : PySem.W.Frag} {H : Hp} {W : Addr → Prop} {N : List Str} {vs : List V} {ds : List PyData} {n : Nat} (h : RpAll K (Hide H W) vs ds) (hn : ds.length + n ≤ N.length) : StF K H W (ds.map .fz ++ List.replicate n .un) (L2.start N vs) H fun _ => [] := by
  have hl := dps_len h
  refine ⟨Same.refl _, ?_, fun _ => .nil, (fun i j a z => by cases z), (fun i a z => by cases z), fun i e he => ?_, fun _ _ => rfl⟩
  · unfold L2.start
    rw [List.length_append, List.length_map, List.length_replicate, List.length_append, List.length_map, List.length_replicate]
    omega
  · by_cases hi : i < ds.length
    · rw [List.getElem?_append_left (by rw [List.length_map]; exact hi), List.getElem?_map, List.getElem?_eq_getElem hi] at he
      cases he
      obtain ⟨v, hv, hp⟩ := dps_get h (List.getElem?_eq_getElem hi)
      refine ⟨rfl, v, ?_, dp_sub (fun b o z => ?_) _ _ hp⟩
      · unfold L2.start
        rw [List.getElem?_append_left (by rw [List.length_map]; omega), List.getElem?_map, hv]
        rfl
      · obtain ⟨z1, z2⟩ := hide_some.mp z
        refine hide_some.mpr ⟨fun q => ?_, z2⟩
        rcases q with q | ⟨k, q⟩
        · exact z1 q
        · cases q
    · rw [List.getElem?_append_right (by rw [List.length_map]; omega), List.getElem?_replicate] at he
      split at he
      · cases he
        exact rfl
      · cases he
def spF (K : PySem.W.Frag) (Pre : List PyData → Prop) (Post : List PyData → PyData → Prop) : Sp := fun vs H Q _ => ∃ U ds, MutU U H ∧ RpAll K (Hide H U) vs ds ∧ Pre ds ∧ ∀ d v H', Post ds d → Same H H' → Rp K (Hide H' U) v d → Q v H'
def bodyF (Post : PyData → Prop) : DEnds where
  nx := fun _ => Post .none
  rt := fun o => ∃ d, (o = .ow d ∨ o = .fz d) ∧ Post d
section
variable {P0 : Program} {w : World} {K : PySem.W.Frag} {mg : Str → Option Value} {base : Heap}
def FnF (P0 : Program) (w : World) (K : PySem.W.Frag) (mg : Str → Option Value) (base : Heap) (x : Str) (k : Nat) (Pre : List PyData → Prop) (Post : List PyData → PyData → Prop) : Prop :=
  ∃ f fd ps, FnOk P0 w K mg base CX0 k f fd ps (spF K Pre Post) ∧ mg x = some (.ref f) ∧ PySem.W.keepIn K (.ref f) = true ∧ Binds K fd ps []
theorem fn_F {x : Str} {st : Stmt} {N ps : List Str} {k : Nat} {Pre : List PyData → Prop} {Post : List PyData → PyData → Prop} (T : TxF K mg x st ps) (S : FnScope N ps (defScope st)) (har : ∀ ds, Pre ds → ds.length = ps.length)
    (body : ∀ (f : Addr) (cdv : Value) (A : Around) (outer : List Env) (s : Shared) (H : Hp) (E : XK), Room k (A.deeper (envOfC x (defScope st) s.heap.objs.size f cdv)) → ∀ ds, Pre ds →
      SD (cxOf CX0 P0 w K mg base N x (defScope st) f cdv A outer s H E).nox (defBody st) (ds.map .fz ++ List.replicate (N.length - ps.length) .un) (bodyF (Post ds))) : FnF P0 w K mg base x (k + 1) Pre Post := by
  obtain ⟨f, fd, F, hm, hbi⟩ := T
  refine ⟨f, fd, ps, ?_, hm, F.kp, hbi⟩
  refine F.ok S (fun vs H Q E ⟨U, ds, hU, h1, h2, _⟩ => by rw [dps_len h1, har _ h2]) (fun cdv A outer s H vs Q E hr ⟨U, ds, hU, h1, h2, h3⟩ => ?_)
  refine ⟨_, pb_w, ?_⟩
  have hN : ps.length ≤ N.length := by
    have e := S.pre
    rw [← e, List.length_take]
    exact Nat.min_le_right _ _
  have b := body f cdv A outer s H E hr ds h2 H U (L2.start N vs) H hU ⟨_, st_startF h1 (by rw [har _ h2]; omega)⟩
  have fin : ∀ v H', (Same H H' ∧ ∃ o, RetR K H U H' v o ∧ (bodyF (Post ds)).rt o) → Q v H' := fun v H' ⟨e, o, r, d, q, hp⟩ => by
    rcases q with q | q
    · subst q
      obtain ⟨T, a, b, c⟩ := r
      exact h3 d v H' hp e (own_dp _ _ _ (own_hide hU (hU.mono e) a c))
    · subst q
      exact h3 d v H' hp e r
  exact wb_mono b (fun σ' H' ⟨ρ', ⟨F', s'⟩, q⟩ => fin .non H' ⟨s'.same, .fz .none, Rp.non, .none, .inr rfl, q⟩) fin (fun _ _ ⟨_, _, q⟩ => False.elim q) (fun _ _ ⟨_, _, q⟩ => False.elim q)
end
structure CallF (X : Cx) (x : Str) (Pre : List PyData → Prop) (Post : List PyData → PyData → Prop) : Prop where
  ex : ∃ (CX : CXT) (k : Nat) (f : Addr) (fd : FuncData) (ps : List Str), FnOk X.prog X.w X.K X.mg X.base CX k f fd ps (spF X.K Pre Post) ∧ Room k X.A ∧ X.mg x = some (.ref f) ∧ PySem.W.keepIn X.K (.ref f) = true ∧
    Binds X.K fd ps [] ∧ ∀ (Y : Cx), Y.prog = X.prog → Y.w = X.w → Passes CX Y E0
theorem callF {X : Cx} {x : Str} {Pre : List PyData → Prop} {Post : List PyData → PyData → Prop} {k k' : Nat} (G : FnF X.prog X.w X.K X.mg X.base x k Pre Post) (hr : Room k' X.A) (hk : k ≤ k' := by decide) : CallF X x Pre Post := by
  obtain ⟨f, fd, ps, G, hm, hp, hb⟩ := G
  exact ⟨_, k, f, fd, ps, G, hr.mono hk, hm, hp, hb, fun _ _ _ => pass0⟩
section
variable {X : Cx} {ρ : DEnv} {a b c : Expr} {es rest : List Expr} {pos p : Pos} {x : Str}
theorem rd_callF {Pre : List PyData → Prop} {Post : List PyData → PyData → Prop} {Q : DE → Prop} (C : CallF X x Pre Post) (h : RFA X (a :: es) ρ fun ds => Pre ds ∧ ∀ d, Post ds d → Q (.fz d)) (hg : Gl X x := by rfl)
    (hdb : (x == ("__debug__" : Str)) = false := by decide) (he : starEach (a :: es) X.env = (false, eval a X.env) :: starEach es X.env := by rfl) (hpl : (backTo pos (starEach es X.env)).any (·.1) = false := by rfl) : RD X (.Call (.Name x p) (a :: es) [] pos) ρ Q := fun U σ H m E => by
  obtain ⟨CX, k, f, fd, ps, F, hr, hm, hk, hb, hx⟩ := C.ex
  refine we_of (pe_call F hr hg hm hk hb .nil (hx X rfl rfl) pa_w hdb he hpl) (wa_mono (h U σ H m E) fun vs H1 ⟨e1, ds, pp, hp, q⟩ => ?_)
  rw [List.append_nil]
  exact ⟨U, ds, m.mono e1, pp, hp, fun d v H' h s r => ⟨e1.trans s, .fz d, r, q d h⟩⟩
/-- displays of frozen items, frozen -/
theorem new_hide {H : Hp} {U : Addr → Prop} {p : Addr} {o : HO} (m : MutU U H) (hp : H p = none) : Hide (upd H p o) U p = some o := by
  refine hide_some.mpr ⟨fun z => ?_, upd_same⟩
  obtain ⟨q, hq⟩ := mut_some (m p z)
  rw [hp] at hq
  cases hq
theorem rd_ftup {x1} {Q : DE → Prop} (h : RFA X es ρ fun ds => ds.length ≤ sizeLine ∧ Q (.fz (.tuple ds))) : RD X (.Tuple es x1 pos) ρ Q := fun U σ H m E =>
  we_of (pe_tup pa_w) (wa_mono (h U σ H m E) fun vs H1 ⟨e1, ds, pp, hz, q⟩ => ⟨by rw [dps_len pp]; exact hz, fun p hp => ⟨e1.trans (same_new hp), .fz (.tuple ds), .tup (.inl (.inl (new_hide (m.mono e1) hp))) (dps_sub (hide_same (same_new hp) fun a o _ z => z) _ _ pp), q⟩⟩)
theorem rd_flist {Q : DE → Prop} (h : RFA X es ρ fun ds => ds.length ≤ sizeLine ∧ Q (.fz (.list ds))) : RD X (.List es pos) ρ Q := fun U σ H m E =>
  we_of (pe_lst pa_w) (wa_mono (h U σ H m E) fun vs H1 ⟨e1, ds, pp, hz, q⟩ => ⟨by rw [dps_len pp]; exact hz, fun p hp => ⟨e1.trans (same_new hp), .fz (.list ds), .lst (.inl (.inl (new_hide (m.mono e1) hp))) (dps_sub (hide_same (same_new hp) fun a o _ z => z) _ _ pp), q⟩⟩)
end
end DL
namespace DL
open PySem PySem.Spec PyProof.Rows L2
/-- a list of whole numbers -/
abbrev numsD (ns : List Int) : PyData := .list (ns.map .int)
end DL
namespace DL
open PySem PySem.Spec PyProof.Rows L2
section
variable {X : Cx} {α : Type} {ρ : DEnv} {D : DEnds} {elt tg iter c : Expr} {scope : Scope} {own : List (Str × Nat)} {pos spos py : Pos} {y : Str}
/-! ### name = [..] on one line -/
theorem s_lcG (i : Nat) (t : Tgt) (xs : List α) (enc : α → PyData) (parts : α → List PyData) (keep : α → Bool) (g : α → PyData) {ifs : List Expr} {tt : TT} (hc : X.calm = true) (hN : X.N.Nodup) (ok : BlkOk X.N X.env.scope scope own) (hg : ForB X scope fun Y => PG Y tg (tgR X.K t))
    (hi : RI X tg iter (frzE ρ) fun items => items = xs.map enc) (hz : xs.length ≤ sizeLine) (hp : ∀ a ∈ xs, t.parts (enc a) = some (parts a)) (tt_mono : ∀ {σ : L2.St} {H : Hp} {Q Q' : Bool → Hp → Prop}, tt σ H Q → (∀ b H', Q b H' → Q' b H') → tt σ H Q')
    (htst : ∀ a ∈ xs, ∀ (U : Addr → Prop) (σ : L2.St) (H : Hp), MutU U H → EnvR X.K U (setD (wipeE (frzE ρ) (own.map (·.2))) t.all (parts a)) σ H → tt σ H fun b H' => Same H H' ∧ b = keep a)
    (hpt : ForB X scope fun Y => PTs Y ifs tt)
    (hb : ∀ a ∈ xs, keep a = true → ForB X scope fun Y => RD Y elt (setD (wipeE (frzE ρ) (own.map (·.2))) t.all (parts a)) fun o => owd (setD (wipeE (frzE ρ) (own.map (·.2))) t.all (parts a)) o (g a))
    (q : BindD ρ i (.ow (.list ((xs.filter keep).map g))) D.nx ∨ BindF ρ i (.ow (.list ((xs.filter keep).map g))) D.nx) (hin : ∀ i ∈ t.all, i ∈ own.map (·.2)) (hs : ∀ x, foldedSetIterable iter X.env x = pure x)
    (hy : X.N[i]? = some y) (hyl : X.env.scope.names.lookup y = some .local) (hl : Nat.blt i ρ.length = true)
    (hsw : swapsWith (.ListComp elt [⟨tg, iter, ifs, 0⟩] scope pos) (some (.Name y py)) spos.line X.env = pure true) : S1 X (.Assign [.Name y py] (.ListComp elt [⟨tg, iter, ifs, 0⟩] scope pos) spos) ρ D := fun B W σ H hW ⟨F, s⟩ => by
  have key := lc_ok (ifs := ifs) (tt := tt) (R0 := fun σ' H' Q' => ∀ D0 : Ends, Q' = (fun x H1 => gName i x σ' H1 D0.nx) → WS X (.Assign [.Name y py] (.ListComp elt [⟨tg, iter, ifs, 0⟩] scope pos) spos) D0 σ' H') t xs enc parts keep g hz hin tt_mono hi hp htst hb
    (fun {wi te} hi he {σ' H' Q'} h D0 e => by
      subst e
      exact ws_of (ps_setLc hc hN hy hyl hsw hi ok hg hpt he hs) h) (s.mut hW) s.env (Q := fun x H1 => gName i x σ H1 (toE X.K B W D).nx) (fun v H' e' r => ?_)
  · exact key _ rfl
  · rcases q with q | q
    · exact bind_ok s hW e' (Nat.blt_eq.mp hl) r q
    · exact bindF_ok s hW e' (Nat.blt_eq.mp hl) r q
theorem s_lc (i : Nat) (t : Tgt) (xs : List α) (enc : α → PyData) (parts : α → List PyData) (g : α → PyData) (hc : X.calm = true) (hN : X.N.Nodup) (ok : BlkOk X.N X.env.scope scope own) (hg : ForB X scope fun Y => PG Y tg (tgR X.K t))
    (hi : RI X tg iter (frzE ρ) fun items => items = xs.map enc) (hz : xs.length ≤ sizeLine) (hp : ∀ a ∈ xs, t.parts (enc a) = some (parts a))
    (hb : ∀ a ∈ xs, ForB X scope fun Y => RD Y elt (setD (wipeE (frzE ρ) (own.map (·.2))) t.all (parts a)) fun o => owd (setD (wipeE (frzE ρ) (own.map (·.2))) t.all (parts a)) o (g a))
    (q : D.nx (setV ρ i (.ow (.list (xs.map g))))) (hin : ∀ i ∈ t.all, i ∈ own.map (·.2) := by decide) (hs : ∀ x, foldedSetIterable iter X.env x = pure x := by intro _; rfl)
    (hy : X.N[i]? = some y := by rfl) (hyl : X.env.scope.names.lookup y = some .local := by rfl) (hl : Nat.blt i ρ.length = true := by rfl) (hk : X.env.scope.kind = .function := by rfl) (hln : (py.line == pos.line) = true := by rfl) (ha : (scope.names.any fun (n, k) => n == y && (k == .local || k == .cell)) = false := by rfl) : S1 X (.Assign [.Name y py] (.ListComp elt [⟨tg, iter, [], 0⟩] scope pos) spos) ρ D :=
  s_lcG (ifs := []) (tt := tYes) i t xs enc parts (fun _ => true) g hc hN ok hg hi hz hp (fun h k => k _ _ h) (fun a ha U σ H m E => ⟨Same.refl _, rfl⟩) (fun s H C cl fp => pts_nil) (fun a ha _ => hb a ha) (.inl (by rw [List.filter_eq_self.mpr fun _ _ => rfl]; exact q)) hin hs hy hyl hl (sw_true hk hyl hln ha)
theorem s_lcF (i : Nat) (t : Tgt) (xs : List α) (enc : α → PyData) (parts : α → List PyData) (g : α → PyData) (hc : X.calm = true) (hN : X.N.Nodup) (ok : BlkOk X.N X.env.scope scope own) (hg : ForB X scope fun Y => PG Y tg (tgR X.K t))
    (hi : RI X tg iter (frzE ρ) fun items => items = xs.map enc) (hz : xs.length ≤ sizeLine) (hp : ∀ a ∈ xs, t.parts (enc a) = some (parts a))
    (hb : ∀ a ∈ xs, ForB X scope fun Y => RD Y elt (setD (wipeE (frzE ρ) (own.map (·.2))) t.all (parts a)) fun o => owd (setD (wipeE (frzE ρ) (own.map (·.2))) t.all (parts a)) o (g a))
    (q : D.nx (setV ρ i (.fz (.list (xs.map g))))) (hin : ∀ i ∈ t.all, i ∈ own.map (·.2) := by decide) (hs : ∀ x, foldedSetIterable iter X.env x = pure x := by intro _; rfl)
    (hy : X.N[i]? = some y := by rfl) (hyl : X.env.scope.names.lookup y = some .local := by rfl) (hl : Nat.blt i ρ.length = true := by rfl) (hk : X.env.scope.kind = .function := by rfl) (hln : (py.line == pos.line) = true := by rfl) (ha : (scope.names.any fun (n, k) => n == y && (k == .local || k == .cell)) = false := by rfl) : S1 X (.Assign [.Name y py] (.ListComp elt [⟨tg, iter, [], 0⟩] scope pos) spos) ρ D :=
  s_lcG (ifs := []) (tt := tYes) i t xs enc parts (fun _ => true) g hc hN ok hg hi hz hp (fun h k => k _ _ h) (fun a ha U σ H m E => ⟨Same.refl _, rfl⟩) (fun s H C cl fp => pts_nil) (fun a ha _ => hb a ha) (.inr ⟨_, rfl, by rw [List.filter_eq_self.mpr fun _ _ => rfl]; exact q⟩) hin hs hy hyl hl (sw_true hk hyl hln ha)
theorem s_lcIf (i : Nat) (t : Tgt) (xs : List α) (enc : α → PyData) (parts : α → List PyData) (keep : α → Bool) (g : α → PyData) (hc : X.calm = true) (hN : X.N.Nodup) (ok : BlkOk X.N X.env.scope scope own) (hg : ForB X scope fun Y => PG Y tg (tgR X.K t))
    (hi : RI X tg iter (frzE ρ) fun items => items = xs.map enc) (hz : xs.length ≤ sizeLine) (hp : ∀ a ∈ xs, t.parts (enc a) = some (parts a))
    (ht : ∀ a ∈ xs, ForB X scope fun Y => RT Y c (setD (wipeE (frzE ρ) (own.map (·.2))) t.all (parts a)) fun b => b = keep a)
    (hb : ∀ a ∈ xs, keep a = true → ForB X scope fun Y => RD Y elt (setD (wipeE (frzE ρ) (own.map (·.2))) t.all (parts a)) fun o => owd (setD (wipeE (frzE ρ) (own.map (·.2))) t.all (parts a)) o (g a))
    (q : D.nx (setV ρ i (.ow (.list ((xs.filter keep).map g)))) ∨ D.nx (setV ρ i (.fz (.list ((xs.filter keep).map g))))) (hin : ∀ i ∈ t.all, i ∈ own.map (·.2) := by decide) (hs : ∀ x, foldedSetIterable iter X.env x = pure x := by intro _; rfl)
    (hy : X.N[i]? = some y := by rfl) (hyl : X.env.scope.names.lookup y = some .local := by rfl) (hl : Nat.blt i ρ.length = true := by rfl) (hk : X.env.scope.kind = .function := by rfl) (hln : (py.line == pos.line) = true := by rfl) (ha : (scope.names.any fun (n, k) => n == y && (k == .local || k == .cell)) = false := by rfl) : S1 X (.Assign [.Name y py] (.ListComp elt [⟨tg, iter, [c], 0⟩] scope pos) spos) ρ D :=
  s_lcG (ifs := [c]) (tt := fun σ H Q => ForB X scope fun Y => WT Y c σ H Q) i t xs enc parts keep g hc hN ok hg hi hz hp (fun h k s H C cl fp => wt_mono (h s H C cl fp) k) (fun a ha U σ H m E s H0 C cl fp => ht a ha s H0 C cl fp U σ H m E)
    (fun s H C cl fp => pts_one (t := fun σ H Q => ForB X scope fun Y => WT Y c σ H Q) ⟨fun pins s' σ H' Q I h => h s H C cl fp pins s' I⟩) hb (q.imp id fun q => ⟨_, rfl, q⟩) hin hs hy hyl hl (sw_true hk hyl hln ha)
end
end DL
namespace DL
open PySem PySem.Spec PyProof.Rows L2
section
variable {K : PySem.W.Frag} {B : Hp} {W : Addr → Prop} {ρ : DEnv} {σ : L2.St} {H H1 : Hp} {F : Nat → List Addr}
theorem st_mod0 {j : Nat} {p : List Nat} {w : V} {d : PyData} {a : Addr} {ds : List PyData} (s : StF K B W ρ σ H F) (e1 : Same H H1) (hj : ρ[j]? = some (.ow d)) (hσ : σ[j]? = some (some w)) (hat : AtV H1 w d p (.ref a) (.list ds)) :
    ∃ vs Sa, H1 a = some (.lst vs) ∧ OwnAll K H1 vs ds Sa ∧ Sa.Nodup ∧ ∀ (vs' : List V) (ds' : List PyData) (Sa' : List Addr), OwnAll K H1 vs' ds' Sa' → Sa'.Nodup → (∀ x ∈ Sa', x ∈ Sa ∨ H x = none) → StD K B W (modE ρ j p (.list ds')) σ (upd H1 a (.lst vs')) := by
  have s0 : StF K B (fun a => W a ∨ a ∈ ([] : List Addr)) ρ σ H F := by
    have : (fun a => W a ∨ a ∈ ([] : List Addr)) = W := by funext x; simp
    rw [this]
    exact s
  obtain ⟨vs, Sa, h1, h2, h3, h4, put⟩ := st_modM (d := d) s0 (fun x hx => by cases hx) e1 hj hσ hat
  refine ⟨vs, Sa, h1, h2, h3, fun vs' ds' Sa' h5 h6 h7 => put vs' ds' Sa' h5 h6 fun x hx => ?_⟩
  rcases h7 x hx with g | g
  · exact .inl g
  · exact .inr (.inl g)
theorem owns_erase {H : Hp} : ∀ (k : Nat) {ds : List PyData} {vs : List V} {S : List Addr}, OwnAll K H vs ds S → ∃ S', OwnAll K H (vs.eraseIdx k) (ds.eraseIdx k) S' ∧ S'.Sublist S
  | _, _, _, _, .nil => ⟨[], by simpa using OwnAll.nil, List.Sublist.refl _⟩
  | 0, _, _, _, .cons (S := S) (T := T) h g => ⟨T, by simpa using g, List.sublist_append_right _ _⟩
  | k + 1, _, _, _, .cons (S := S) (T := T) h g => by
    obtain ⟨S', h1, h2⟩ := owns_erase k g
    exact ⟨S ++ S', .cons h h1, (List.Sublist.refl S).append h2⟩
theorem owns_takeS {H : Hp} : ∀ (k : Nat) {ds : List PyData} {vs : List V} {S : List Addr}, OwnAll K H vs ds S → ∃ S', OwnAll K H (vs.take k) (ds.take k) S' ∧ S'.Sublist S
  | _, _, _, _, .nil => ⟨[], by simpa using OwnAll.nil, List.Sublist.refl _⟩
  | 0, _, _, _, .cons h g => ⟨[], by simpa using OwnAll.nil, List.nil_sublist _⟩
  | k + 1, _, _, _, .cons (S := S) (T := T) h g => by
    obtain ⟨S', h1, h2⟩ := owns_takeS k g
    exact ⟨S ++ S', .cons h h1, (List.Sublist.refl S).append h2⟩
/-- an item is put in the place of another one -/
theorem owns_put {H : Hp} : ∀ (k : Nat) {ds : List PyData} {vs : List V} {S : List Addr} {v : V} {d : PyData} {T : List Addr}, OwnAll K H vs ds S → OwnR K H v d T → k < ds.length → ∃ S0 S', OwnAll K H (vs.set k v) (ds.set k d) S' ∧ S0.Sublist S ∧ S'.Perm (S0 ++ T)
  | _, _, _, _, _, _, _, .nil, _, h => absurd h (Nat.not_lt_zero _)
  | 0, _, _, _, v, d, U, .cons (S := S) (T := T) h g, o, _ => ⟨T, U ++ T, .cons o g, List.sublist_append_right _ _, List.perm_append_comm⟩
  | k + 1, _, _, _, v, d, U, .cons (S := S) (T := T) h g, o, hk => by
    obtain ⟨S0, S', h1, h2, h3⟩ := owns_put k g o (Nat.lt_of_succ_lt_succ hk)
    exact ⟨S ++ S0, S ++ S', .cons h h1, (List.Sublist.refl S).append h2, by
      rw [List.append_assoc]
      exact h3.append_left S⟩
end
section
variable {X : Cx} {ρ : DEnv} {D : DEnds} {a b c o e i : Expr} {es rest : List Expr} {pos p cpos apos : Pos} {x : Str} {ks : List Nat}
/-- list.count -/
theorem rd_count {Q : DE → Prop} (h : RV X o ρ fun d => ∃ ns : List Int, d = .list (ns.map .int) ∧ RV X e ρ fun d2 => ∃ k, d2 = .int k ∧ Q (.fz (.int (ns.count k : Nat)))) (hbase : attributeBase o "count" X.env (eval o X.env) = eval o X.env := by rfl)
    (hfew : ((backTo cpos (starEach (e :: []) X.env)).all (fun x => !x.1) && (backToKw cpos (keywordEach [] X.env)).all (fun x => x.1.isSome) && decide ((e :: []).length + ([] : List Keyword).length + (if ([] : List Keyword).isEmpty then 0 else 1) < 30)) = true := by rfl)
    (hline : (apos.endLine == cpos.line) = true := by rfl) (hst : starEach (e :: []) X.env = (false, eval e X.env) :: starEach [] X.env := by rfl) (hplain : (backTo cpos (starEach [] X.env)).any (·.1) = false := by rfl) : RD X (.Call (.Attribute o "count" apos) [e] [] cpos) ρ Q := fun U σ H m E => by
  refine we_of (pe_bm PySem.F.plainAttrs_list PySem.F.slot_list_count PySem.F.type_list_count mt_lcount pe_w (pa_cons pe_w pa_nil hst) hbase hfew hline hst hplain) ?_
  refine we_mono (h U σ H m E) fun v H1 ⟨e1, d, pp, ns, ed, h2⟩ => ?_
  subst ed
  cases pp with
  | lst g1 g2 =>
    have := dps_intsV g2
    subst this
    refine ⟨.inl ⟨rfl, _, g1⟩, we_mono (h2 U σ H1 (m.mono e1) (envR_same E e1)) fun u H2 ⟨e2, d2, p2, k, ed2, q⟩ => ?_⟩
    subst ed2
    cases p2
    exact ⟨_, ns, k, rfl, rfl, e2.seq g1, e1.trans e2, .fz (.int _), Rp.int _, q⟩
/-! ### expressions that change a list in a slot -/
def RS (X : Cx) (e : Expr) (ρ : DEnv) (Q : PyData → DEnv → Prop) : Prop := ∀ (B : Hp) (W : Addr → Prop) (σ : L2.St) (H : Hp) (F : Nat → List Addr), MutU W B → StF X.K B W ρ σ H F → WE X e σ H fun v H' => ∃ d ρ', lf d = true ∧ Rp X.K H' v d ∧ StD X.K B W ρ' σ H' ∧ Q d ρ'
/-- x.pop(), whatever comes -/
theorem s_pop (h : RD X o ρ fun oo => ∃ j p ds d, oo = .al j p ∧ dat ρ oo = some (.list (ds ++ [d])) ∧ D.nx (modE ρ j p (.list ds))) (hbase : attributeBase o "pop" X.env (eval o X.env) = eval o X.env := by rfl) (hline : (apos.endLine == cpos.line) = true := by rfl)
    (hs : swapsWith (.Call (.Attribute o "pop" apos) [] [] cpos) none pos.line X.env = pure false := by rfl) : S1 X (.Expr (.Call (.Attribute o "pop" apos) [] [] cpos) pos) ρ D := fun B W σ H hW ⟨F, s⟩ => by
  refine ws_of (ps_expr (pe_bm0 PySem.F.plainAttrs_list PySem.F.slot_list_pop PySem.F.type_list_pop mt_pop pe_w hbase hline) hs) ?_
  refine we_mono (h _ σ H (s.mut hW) s.env) fun v H1 ⟨e1, oo, r, j, p, ds, d, eo, hd, q⟩ => ?_
  subst eo
  obtain ⟨a, w, d0, ev, hj, hσ, hat⟩ := st_place s e1 r hd
  subst ev
  obtain ⟨vs, Sa, ha, hO, nSa, put⟩ := st_mod0 s e1 hj hσ hat
  have hl := owns_len hO
  rw [List.length_append, List.length_singleton] at hl
  refine ⟨.inl ⟨rfl, _, .inl (.inl ha)⟩, a, vs, vs[vs.length - 1], rfl, rfl, ha, List.getElem?_eq_getElem (by omega), _, ?_, q⟩
  obtain ⟨S', h1, h2⟩ := owns_takeS ds.length hO
  rw [List.take_left] at h1
  rw [show vs.dropLast = vs.take ds.length by rw [List.dropLast_eq_take]; congr 1; omega]
  exact put _ _ _ h1 (nSa.sublist h2) fun x hx => .inl (h2.subset hx)
theorem rs_pop {Q : PyData → DEnv → Prop} (h : RD X o ρ fun oo => ∃ j p ds d, oo = .al j p ∧ dat ρ oo = some (.list (ds ++ [d])) ∧ lf d = true ∧ Q d (modE ρ j p (.list ds))) (hbase : attributeBase o "pop" X.env (eval o X.env) = eval o X.env := by rfl) (hline : (apos.endLine == cpos.line) = true := by rfl) : RS X (.Call (.Attribute o "pop" apos) [] [] cpos) ρ Q := fun B W σ H F hW s => by
  refine we_of (pe_bm0 PySem.F.plainAttrs_list PySem.F.slot_list_pop PySem.F.type_list_pop mt_pop pe_w hbase hline) ?_
  refine we_mono (h _ σ H (s.mut hW) s.env) fun v H1 ⟨e1, oo, r, j, p, ds, d, eo, hd, hf, q⟩ => ?_
  subst eo
  obtain ⟨a, w, d0, ev, hj, hσ, hat⟩ := st_place s e1 r hd
  subst ev
  obtain ⟨vs, Sa, ha, hO, nSa, put⟩ := st_mod0 s e1 hj hσ hat
  have hl := owns_len hO
  rw [List.length_append, List.length_singleton] at hl
  have hv : vs[vs.length - 1]? = some vs[vs.length - 1] := List.getElem?_eq_getElem (by omega)
  refine ⟨.inl ⟨rfl, _, .inl (.inl ha)⟩, a, vs, vs[vs.length - 1], rfl, rfl, ha, hv, d, _, hf, ?_, ?_, q⟩
  · obtain ⟨d', g1, g2⟩ := dps_getV (owns_dp _ _ _ hO) hv
    rw [hl, Nat.add_sub_cancel, List.getElem?_append_right (Nat.le_refl _), Nat.sub_self] at g1
    cases g1
    exact dp_lf (upd_tups (by rw [ha]; trivial)) _ _ g2 hf
  · obtain ⟨S', h1, h2⟩ := owns_takeS ds.length hO
    rw [List.take_left] at h1
    rw [show vs.dropLast = vs.take ds.length by rw [List.dropLast_eq_take]; congr 1; omega]
    exact put _ _ _ h1 (nSa.sublist h2) fun x hx => .inl (h2.subset hx)
theorem rs_popAt {Q : PyData → DEnv → Prop} (h : RD X o ρ fun oo => ∃ j p ds, oo = .al j p ∧ dat ρ oo = some (.list ds) ∧ RV X e ρ fun di => ∃ k m d, di = .int k ∧ (-(2 ^ 63) ≤ k ∧ k < 2 ^ 63) ∧ seqIndex? k ds.length = some m ∧ ds[m]? = some d ∧ lf d = true ∧ Q d (modE ρ j p (.list (ds.eraseIdx m)))) (hbase : attributeBase o "pop" X.env (eval o X.env) = eval o X.env := by rfl)
    (hfew : ((backTo cpos (starEach (e :: []) X.env)).all (fun x => !x.1) && (backToKw cpos (keywordEach [] X.env)).all (fun x => x.1.isSome) && decide ((e :: []).length + ([] : List Keyword).length + (if ([] : List Keyword).isEmpty then 0 else 1) < 30)) = true := by rfl)
    (hline : (apos.endLine == cpos.line) = true := by rfl) (hst : starEach (e :: []) X.env = (false, eval e X.env) :: starEach [] X.env := by rfl) (hplain : (backTo cpos (starEach [] X.env)).any (·.1) = false := by rfl) : RS X (.Call (.Attribute o "pop" apos) [e] [] cpos) ρ Q := fun B W σ H F hW s => by
  refine we_of (pe_bm PySem.F.plainAttrs_list PySem.F.slot_list_pop PySem.F.type_list_pop mt_popAt pe_w (pa_cons pe_w pa_nil hst) hbase hfew hline hst hplain) ?_
  refine we_mono (h _ σ H (s.mut hW) s.env) fun v H1 ⟨e1, oo, r, j, p, ds, eo, hd, h2⟩ => ?_
  subst eo
  obtain ⟨a, w, d0, ev, hj, hσ, hat⟩ := st_place s e1 r hd
  subst ev
  obtain ⟨vs0, _, ha0, _⟩ := st_mod0 s e1 hj hσ hat
  refine ⟨.inl ⟨rfl, _, .inl (.inl ha0)⟩, we_mono (h2 _ σ H1 ((s.mono e1).mut hW) (s.mono e1).env) fun u H2 ⟨e2, di, pdi, k, m, d, ed, hk, hm, hdm, hf, q⟩ => ?_⟩
  subst ed
  cases pdi
  obtain ⟨vs, Sa, ha, hO, nSa, put⟩ := st_mod0 s (e1.trans e2) hj hσ (at_same e2 hat)
  have hl := owns_len hO
  obtain ⟨y, hy, py⟩ := dps_get (owns_dp _ _ _ hO) hdm
  refine ⟨a, vs, k, m, y, rfl, rfl, ha, hk.1, hk.2, by rw [hl]; exact hm, hy, d, _, hf, dp_lf (upd_tups (by rw [ha]; trivial)) _ _ py hf, ?_, q⟩
  obtain ⟨S', h3, h4⟩ := owns_erase m hO
  exact put _ _ _ h3 (nSa.sublist h4) fun x hx => .inl (h4.subset hx)
theorem s_rsExpr (h : RS X e ρ fun _ ρ' => D.nx ρ') (hs : swapsWith e none pos.line X.env = pure false := by rfl) : S1 X (.Expr e pos) ρ D := fun B W σ H hW ⟨F, s⟩ =>
  ws_of (ps_expr pe_w hs) (we_mono (h B W σ H F hW s) fun v H' ⟨d, ρ', _, _, s', q⟩ => ⟨ρ', s', q⟩)
theorem s_rsSet (i : Nat) (h : RS X e ρ fun d ρ' => Nat.blt i ρ'.length = true ∧ D.nx (setV ρ' i (.fz d))) (hN : X.N.Nodup) (hi : X.N[i]? = some x := by rfl) (hx : Loc X.env.scope x := by first | exact Or.inl rfl | exact Or.inr rfl) (hs : swapsWith e (some (.Name x p)) pos.line X.env = pure false := by rfl)
    (hf : X.fn x = true ∨ X.env.scope.names.lookup x = some .local := by first | exact .inl rfl | exact .inr rfl) : S1 X (.Assign [.Name x p] e pos) ρ D := fun B W σ H hW ⟨F, s⟩ =>
  ws_of (ps_set hN hi hx pe_w hs hf) (we_mono (h B W σ H F hW s) fun v H' ⟨d, ρ', hf', pv, ⟨F', s'⟩, hl, q⟩ =>
    ⟨_, st_setFz s' (Same.refl _) (Nat.blt_eq.mp hl) (dp_lf (hide_tups (s'.mut hW)) _ _ pv hf'), q⟩)
/-- o.append(e), e changing other lists; o a name -/
theorem s_rsAppend (h : RD X o ρ fun oo => ∃ j, oo = .al j [] ∧ (∃ ds0, dat ρ oo = some (.list ds0)) ∧ RS X e ρ fun d ρ' => ∃ ds, ρ'[j]? = some (.ow (.list ds)) ∧ ds.length < sizeLine ∧ D.nx (modE ρ' j [] (.list (ds ++ [d]))))
    (hbase : attributeBase o "append" X.env (eval o X.env) = eval o X.env := by rfl)
    (hfew : ((backTo cpos (starEach (e :: []) X.env)).all (fun x => !x.1) && (backToKw cpos (keywordEach [] X.env)).all (fun x => x.1.isSome) && decide ((e :: []).length + ([] : List Keyword).length + (if ([] : List Keyword).isEmpty then 0 else 1) < 30)) = true := by rfl)
    (hline : (apos.endLine == cpos.line) = true := by rfl) (hst : starEach (e :: []) X.env = (false, eval e X.env) :: starEach [] X.env := by rfl) (hplain : (backTo cpos (starEach [] X.env)).any (·.1) = false := by rfl)
    (hs : swapsWith (.Call (.Attribute o "append" apos) [e] [] cpos) none pos.line X.env = pure false := by rfl) : S1 X (.Expr (.Call (.Attribute o "append" apos) [e] [] cpos) pos) ρ D := fun B W σ H hW ⟨F, s⟩ => by
  refine ws_of (ps_expr (pe_bm PySem.F.plainAttrs_list PySem.F.slot_list_append PySem.F.type_list_append mt_append pe_w (pa_cons pe_w pa_nil hst) hbase hfew hline hst hplain) hs) ?_
  refine we_mono (h _ σ H (s.mut hW) s.env) fun v H1 ⟨e1, oo, r, j, eo, ⟨ds0, hd⟩, h2⟩ => ?_
  subst eo
  obtain ⟨a, w, d0, ev, hj, hσ, hat⟩ := st_place s e1 r hd
  subst ev
  have hw : w = .ref a := by
    cases hat
    rfl
  subst hw
  obtain ⟨vs0, _, ha0, _⟩ := st_mod0 s e1 hj hσ hat
  refine ⟨.inl ⟨rfl, _, .inl (.inl ha0)⟩, we_mono (h2 B W σ H1 F hW (s.mono e1)) fun u H2 ⟨d, ρ', hf', pv, ⟨F', s'⟩, ds, hj', hz, q⟩ => ?_⟩
  obtain ⟨vs, Sa, ha, hO, nSa, put⟩ := st_mod0 (p := []) (ds := ds) (a := a) s' (Same.refl _) hj' hσ .nil
  refine ⟨a, vs, u, rfl, rfl, ha, by rw [owns_len hO]; exact hz, _, ?_, q⟩
  have := owns_snoc hO (.flt pv hf')
  rw [List.append_nil] at this
  exact put _ _ _ this nSa fun x hx => .inl hx
/-- o.insert(i, e) -/
theorem s_insert (h : RD X o ρ fun oo => ∃ j p ds, oo = .al j p ∧ dat ρ oo = some (.list ds) ∧ ds.length < sizeLine ∧ RV X i ρ fun di => RV X e ρ fun d => ∃ k : Nat, di = .int k ∧ k < 2 ^ 63 ∧ lf d = true ∧ D.nx (modE ρ j p (.list (ds.take k ++ [d] ++ ds.drop k))))
    (hbase : attributeBase o "insert" X.env (eval o X.env) = eval o X.env := by rfl)
    (hfew : ((backTo cpos (starEach (i :: e :: []) X.env)).all (fun x => !x.1) && (backToKw cpos (keywordEach [] X.env)).all (fun x => x.1.isSome) && decide ((i :: e :: []).length + ([] : List Keyword).length + (if ([] : List Keyword).isEmpty then 0 else 1) < 30)) = true := by rfl)
    (hline : (apos.endLine == cpos.line) = true := by rfl) (hst : starEach (i :: e :: []) X.env = (false, eval i X.env) :: starEach (e :: []) X.env := by rfl) (hst2 : starEach (e :: []) X.env = (false, eval e X.env) :: starEach [] X.env := by rfl) (hplain : (backTo cpos (starEach (e :: []) X.env)).any (·.1) = false := by rfl)
    (hs : swapsWith (.Call (.Attribute o "insert" apos) [i, e] [] cpos) none pos.line X.env = pure false := by rfl) : S1 X (.Expr (.Call (.Attribute o "insert" apos) [i, e] [] cpos) pos) ρ D := fun B W σ H hW ⟨F, s⟩ => by
  refine ws_of (ps_expr (pe_bm PySem.F.plainAttrs_list PySem.F.slot_list_insert PySem.F.type_list_insert mt_insert pe_w (pa_cons pe_w (pa_cons pe_w pa_nil hst2) hst) hbase hfew hline hst hplain) hs) ?_
  refine we_mono (h _ σ H (s.mut hW) s.env) fun v H1 ⟨e1, oo, r, j, p, ds, eo, hd, hz, h2⟩ => ?_
  subst eo
  obtain ⟨a, w, d0, ev, hj, hσ, hat⟩ := st_place s e1 r hd
  subst ev
  obtain ⟨vs0, _, ha0, _⟩ := st_mod0 s e1 hj hσ hat
  refine ⟨.inl ⟨rfl, _, .inl (.inl ha0)⟩, we_mono (h2 _ σ H1 ((s.mono e1).mut hW) (s.mono e1).env) fun u H2 ⟨e2, di, pdi, h3⟩ => we_mono (h3 _ σ H2 ((s.mono (e1.trans e2)).mut hW) (s.mono (e1.trans e2)).env) fun u2 H3 ⟨e3, d, pd, k, ed, hk, hf, q⟩ => ?_⟩
  subst ed
  cases pdi
  have e13 := e1.trans (e2.trans e3)
  obtain ⟨vs, Sa, ha, hO, nSa, put⟩ := st_mod0 s e13 hj hσ (at_same (e2.trans e3) hat)
  have hl := owns_len hO
  refine ⟨a, vs, (k : Nat), u2, rfl, rfl, ha, by omega, by omega, by omega, _, ?_, q⟩
  have key : ∀ (k : Nat) {ds : List PyData} {vs : List V} {S : List Addr}, OwnAll X.K H3 vs ds S → OwnAll X.K H3 (vs.take k ++ [u2] ++ vs.drop k) (ds.take k ++ [d] ++ ds.drop k) S := by
    intro k
    induction k with
    | zero =>
      intro ds vs S h
      have := OwnAll.cons (OwnR.flt pd hf) h
      simpa using this
    | succ k ih =>
      intro ds vs S h
      cases h with
      | nil =>
        have := OwnAll.cons (OwnR.flt pd hf) (OwnAll.nil (K := X.K) (H := H3))
        simpa using this
      | cons g1 g2 =>
        have := OwnAll.cons g1 (ih g2)
        simpa using this
  exact put _ _ _ (by simpa using key k hO) nSa fun x hx => .inl hx
/-- o.remove(k), whole numbers -/
theorem s_remove (h : RD X o ρ fun oo => ∃ j p, ∃ ns : List Int, oo = .al j p ∧ dat ρ oo = some (.list (ns.map .int)) ∧ RV X e ρ fun d => ∃ k m, d = .int k ∧ ns[m]? = some k ∧ (∀ n : Nat, n < m → ns[n]? ≠ some k) ∧ D.nx (modE ρ j p (.list ((ns.eraseIdx m).map .int))))
    (hbase : attributeBase o "remove" X.env (eval o X.env) = eval o X.env := by rfl)
    (hfew : ((backTo cpos (starEach (e :: []) X.env)).all (fun x => !x.1) && (backToKw cpos (keywordEach [] X.env)).all (fun x => x.1.isSome) && decide ((e :: []).length + ([] : List Keyword).length + (if ([] : List Keyword).isEmpty then 0 else 1) < 30)) = true := by rfl)
    (hline : (apos.endLine == cpos.line) = true := by rfl) (hst : starEach (e :: []) X.env = (false, eval e X.env) :: starEach [] X.env := by rfl) (hplain : (backTo cpos (starEach [] X.env)).any (·.1) = false := by rfl)
    (hs : swapsWith (.Call (.Attribute o "remove" apos) [e] [] cpos) none pos.line X.env = pure false := by rfl) : S1 X (.Expr (.Call (.Attribute o "remove" apos) [e] [] cpos) pos) ρ D := fun B W σ H hW ⟨F, s⟩ => by
  refine ws_of (ps_expr (pe_bm PySem.F.plainAttrs_list PySem.F.slot_list_remove PySem.F.type_list_remove mt_remove pe_w (pa_cons pe_w pa_nil hst) hbase hfew hline hst hplain) hs) ?_
  refine we_mono (h _ σ H (s.mut hW) s.env) fun v H1 ⟨e1, oo, r, j, p, ns, eo, hd, h2⟩ => ?_
  subst eo
  obtain ⟨a, w, d0, ev, hj, hσ, hat⟩ := st_place s e1 r hd
  subst ev
  obtain ⟨vs0, _, ha0, _⟩ := st_mod0 s e1 hj hσ hat
  refine ⟨.inl ⟨rfl, _, .inl (.inl ha0)⟩, we_mono (h2 _ σ H1 ((s.mono e1).mut hW) (s.mono e1).env) fun u H2 ⟨e2, di, pdi, k, m, ed, hm, hno, q⟩ => ?_⟩
  subst ed
  cases pdi
  obtain ⟨vs, Sa, ha, hO, nSa, put⟩ := st_mod0 s (e1.trans e2) hj hσ (at_same e2 hat)
  have hv := dps_intsV (owns_dp _ _ _ hO)
  subst hv
  refine ⟨a, ns, k, m, rfl, rfl, ha, hm, hno, _, ?_, q⟩
  exact put _ _ [] (owns_lf (dps_ints _) (lfs_ints _)) .nil fun x hx => by cases hx
/-- o[i] = e -/
theorem s_setItem (h : RM X e ρ ks fun d => RD X o (unVs ρ ks) fun oo => ∃ j p ds, oo = .al j p ∧ dat (unVs ρ ks) oo = some (.list ds) ∧ RV X i (unVs ρ ks) fun di => ∃ k m, di = .int k ∧ ixN ds.length k = some m ∧ D.nx (modE (unVs ρ ks) j p (.list (ds.set m d))))
    (hnd : ks.Nodup := by decide) (hs : swapsWithSole [.Subscript o i p] e pos.line X.env = pure false := by rfl) (hw : swappedStores [.Subscript o i p] e X.env = pure none := by rfl) (h1 : (assignEach [.Subscript o i p] X.env).map (·.2) = [assign (.Subscript o i p) X.env] := by rfl)
    (ha : ∀ v, assign (.Subscript o i p) X.env v = (do
      let ov ← holding [v] (eval o X.env)
      let iv ← holding [v, ov] (eval i X.env)
      standAt p
      holding [v, ov, iv] (setItem ov iv v)
      release [v, ov, iv] []) := by intro _; rfl) : S1 X (.Assign [.Subscript o i p] e pos) ρ D := fun B W σ H hW ⟨F, s⟩ => by
  refine ws_of (ps_asg pe_w (pg_sub pe_w pe_w set_list ha) hs hw h1) ?_
  refine we_mono (h B W σ H F hW s) fun v H1 ⟨e1, dd, S, oS, nS, fS, h2⟩ => ?_
  have s0 : StF X.K B (fun a => W a ∨ a ∈ ([] : List Addr)) ρ σ H F := by
    have : (fun a => W a ∨ a ∈ ([] : List Addr)) = W := by funext x; simp
    rw [this]
    exact s
  obtain ⟨F', M', s3, hM', _, hk', hF'⟩ := st_uns ks s0 (fun x hx => by cases hx) hnd
  have sm : MutU (UF (fun a => W a ∨ a ∈ M') F') H := by
    intro a ha
    rcases ha with (ha | ha) | ⟨k, ha⟩
    · exact hW.mono s.same a ha
    · obtain ⟨_, _, xs, hx, mx⟩ := hM' a ha
      rw [hx]; exact mx
    · obtain ⟨xs, hx, mx⟩ := s3.lstAt ha
      rw [hx]; exact mx
  have s4 := s3.mono e1
  refine we_mono (h2 _ σ H1 (sm.mono e1) s4.env) fun v2 H2 ⟨e2, oo, r, j, p, ds, eo, hd, h3⟩ => ?_
  subst eo
  obtain ⟨a, w, d0, ev, hj, hσ, hat⟩ := st_place s4 e2 r hd
  subst ev
  refine we_mono (h3 _ σ H2 ((sm.mono e1).mono e2) (s4.mono e2).env) fun v3 H3 ⟨e3, di, pdi, k, m, ed, hm, q⟩ => ?_
  subst ed
  cases pdi
  obtain ⟨vs, Sa, ha, hO, nSa, hSF, put⟩ := st_modM (d := d0) s3 hM' (e1.trans (e2.trans e3)) hj hσ (at_same e3 hat)
  have hl := owns_len hO
  refine ⟨a, vs, k, m, rfl, rfl, ha, by rw [hl]; exact hm, _, ?_, q⟩
  have hmlt : m < ds.length := (ixN_seq hm).2.1
  obtain ⟨S0, S', g1, g2, g3⟩ := owns_put m hO (own_same (e2.trans e3) oS) hmlt
  refine put _ _ S' g1 (g3.nodup_iff.mpr (List.nodup_append.mpr ⟨nSa.sublist g2, nS, fun x hx y hy z => ?_⟩)) fun x hx => ?_
  · subst z
    have hxF := hSF x (g2.subset hx)
    rcases fS x hy with g | ⟨k, hk, g⟩
    · obtain ⟨xs, hxs, _⟩ := s3.lstAt hxF
      rw [g] at hxs
      cases hxs
    · exact (hM' x (hk' k hk x g)).2.1 j hxF
  · rcases List.mem_append.mp (g3.mem_iff.mp hx) with hx | hx
    · exact .inl (g2.subset hx)
    · rcases fS x hx with g | ⟨k, hk, g⟩
      · exact .inr (.inl g)
      · exact .inr (.inr (hk' k hk x g))
/-- o[i] op= e, whole numbers -/
def rGetL (K : PySem.W.Frag) : V → V → Hp → VK → Prop := fun o i H Q => ∃ p xs k v, o = .ref p ∧ i = .int k ∧ SqL K H p xs ∧ atI xs k = some v ∧ Q v H
theorem get_list : PGet X (rGetL X.K) := by
  intro pins s σ H x y v u Q I rx ry h
  obtain ⟨p, xs, i, z, rfl, rfl, hq, he, q⟩ := h
  cases rx
  obtain ⟨t, rfl⟩ := ry
  obtain ⟨its, r, pl, hz⟩ := I.list hq
  obtain ⟨j, h1, h2, h3, h4, h5⟩ := atI_get he
  obtain ⟨w, ew, rw'⟩ := r.get h2
  have hl := r.length
  have hn := line63
  have fin : EP X pins σ Q w s := ⟨z, H, I, rw', q⟩
  by_cases h0 : 0 ≤ i
  · have hj : i.toNat = j := by
      rw [seqIndex_of h0 h5] at h1
      exact Option.some.inj h1
    exact wpAny_getItem_list pl.isList h0 (by omega) (by rw [hj]; simpa using ew) fin
  · have hj : (i + (its.toArray.size : Int)).toNat = j := by
      rw [seqIndex_neg (by omega) h4] at h1
      rw [List.size_toArray, ← hl]
      exact Option.some.inj h1
    exact wpAny_getItem_list_neg pl.isList (by omega) (by rw [List.size_toArray] <;> omega) (by omega) (by rw [hj]; simpa using ew) fin
theorem s_augItem {op : Operator} {f : Int → Int → Int} (hop : PIp X op (ipI f)) (h : RD X o ρ fun oo => ∃ j p ds, oo = .al j p ∧ dat ρ oo = some (.list ds) ∧ RV X i ρ fun di => ∃ k m n, di = .int k ∧ ixN ds.length k = some m ∧ ds[m]? = some (.int n) ∧ RV X e ρ fun d => ∃ z, d = .int z ∧ D.nx (modE ρ j p (.list (ds.set m (.int (f n z))))))
    (ha : ∀ ov iv new, augStore i ov iv new = (do holding [new, ov, iv] (setItem ov iv new); release [new, ov, iv] []; pure .next) := by intros; rfl) : S1 X (.AugAssign (.Subscript o i p) op e pos) ρ D := fun B W σ H hW ⟨F, s⟩ => by
  refine ws_of (ps_augS pe_w pe_w get_list pe_w hop set_list ha) ?_
  refine we_mono (h _ σ H (s.mut hW) s.env) fun v H1 ⟨e1, oo, r, j, p, ds, eo, hd, h2⟩ => ?_
  subst eo
  obtain ⟨a, w, d0, ev, hj, hσ, hat⟩ := st_place s e1 r hd
  subst ev
  refine we_mono (h2 _ σ H1 ((s.mono e1).mut hW) (s.mono e1).env) fun u H2 ⟨e2, di, pdi, k, m, n, ed, hm, hn, h3⟩ => ?_
  subst ed
  cases pdi
  obtain ⟨vs0, S0, ha0, hO0, _⟩ := st_mod0 s (e1.trans e2) hj hσ (at_same e2 hat)
  obtain ⟨y, hy, py⟩ := dps_get (owns_dp _ _ _ hO0) hn
  cases py
  refine ⟨a, vs0, k, _, rfl, rfl, .inl (.inl ha0), ix_atI (by rw [owns_len hO0]; exact hm) hy, ?_⟩
  refine we_mono (h3 _ σ H2 ((s.mono (e1.trans e2)).mut hW) (s.mono (e1.trans e2)).env) fun u2 H3 ⟨e3, d, pd, z, ed, q⟩ => ?_
  subst ed
  cases pd
  obtain ⟨vs, Sa, ha, hO, nSa, put⟩ := st_mod0 s (e1.trans (e2.trans e3)) hj hσ (at_same (e2.trans e3) hat)
  have hl := owns_len hO
  refine ⟨n, z, rfl, rfl, a, vs, k, m, rfl, rfl, ha, by rw [hl]; exact hm, _, ?_, q⟩
  obtain ⟨S0, S', g1, g2, g3⟩ := owns_put m hO (.flt (.int (f n z)) rfl) (ixN_seq hm).2.1
  rw [List.append_nil] at g3
  exact put _ _ S' g1 (g3.nodup_iff.mpr (nSa.sublist g2)) fun x hx => .inl (g2.subset (g3.mem_iff.mp hx))
end
end DL
namespace DL
open PySem PySem.Spec PyProof.Rows L2
section
variable {X : Cx} {ρ : DEnv} {pos : Pos} {x : Str}
theorem rd_globI {i : Int} {Q : DE → Prop} (h : ∃ t, X.mg x = some (.int i t)) (q : Q (.fz (.int i))) (hg : Gl X x := by rfl) (hd : (x == ("__debug__" : Str)) = false := by decide) : RD X (.Name x pos) ρ Q := by
  obtain ⟨t, h⟩ := h
  exact rd_glob (v := .int i) h ⟨t, rfl⟩ (fun H => .int i) q hg hd
theorem rd_globS {i : Str} {Q : DE → Prop} (h : ∃ t, X.mg x = some (.str i t)) (q : Q (.fz (.str i))) (hg : Gl X x := by rfl) (hd : (x == ("__debug__" : Str)) = false := by decide) : RD X (.Name x pos) ρ Q := by
  obtain ⟨t, h⟩ := h
  exact rd_glob (v := .str i) h ⟨t, rfl⟩ (fun H => .str i) q hg hd
theorem rv_globI {i : Int} {Q : PyData → Prop} (h : ∃ t, X.mg x = some (.int i t)) (q : Q (.int i)) (hg : Gl X x := by rfl) (hd : (x == ("__debug__" : Str)) = false := by decide) : RV X (.Name x pos) ρ Q := rv_of (rd_globI h ⟨_, rfl, q⟩ hg hd)
theorem rv_globS {i : Str} {Q : PyData → Prop} (h : ∃ t, X.mg x = some (.str i t)) (q : Q (.str i)) (hg : Gl X x := by rfl) (hd : (x == ("__debug__" : Str)) = false := by decide) : RV X (.Name x pos) ρ Q := rv_of (rd_globS h ⟨_, rfl, q⟩ hg hd)
end
theorem cut_lo (ds : List PyData) (k : Nat) : cutD ds (some (k : Int)) none = ds.drop k := by
  unfold cutD
  rw [HT.sIx_nat, HT.sIx_none]
  by_cases h : k ≤ ds.length
  · rw [Nat.min_eq_left h, List.take_of_length_le (by rw [List.length_drop]; exact Nat.le_refl _)]
  · rw [Nat.min_eq_right (by omega), List.drop_of_length_le (Nat.le_refl _), List.drop_of_length_le (by omega)]
    simp
theorem cut_hi (ds : List PyData) (k : Nat) : cutD ds none (some (k : Int)) = ds.take k := by
  unfold cutD
  rw [HT.sIx_nat, HT.sIx_none, List.drop_zero, Nat.sub_zero]
  by_cases h : k ≤ ds.length
  · rw [Nat.min_eq_left h]
  · rw [Nat.min_eq_right (by omega), List.take_of_length_le (Nat.le_refl _), List.take_of_length_le (by omega)]
theorem cut_lohi (ds : List PyData) (j k : Nat) : cutD ds (some (j : Int)) (some (k : Int)) = (ds.take k).drop j := by
  unfold cutD
  rw [HT.sIx_nat, HT.sIx_nat, List.drop_take]
  by_cases h : j ≤ ds.length
  · rw [Nat.min_eq_left h]
    by_cases h2 : k ≤ ds.length
    · rw [Nat.min_eq_left h2]
    · rw [Nat.min_eq_right (by omega), List.take_of_length_le (by rw [List.length_drop]; omega), List.take_of_length_le (by rw [List.length_drop]; omega)]
  · rw [Nat.min_eq_right (show ds.length ≤ j by omega), List.drop_of_length_le (Nat.le_refl _), List.drop_of_length_le (show ds.length ≤ j by omega)]
    simp
theorem cut_init (ds : List PyData) : cutD ds none (some (-1)) = ds.dropLast := by
  unfold cutD
  rw [HT.sIx_none, List.drop_zero, Nat.sub_zero, List.dropLast_eq_take]
  have e : HT.sIx ds.length ds.length (some (-1)) = ds.length - 1 := by
    show (if (-1 : Int) < 0 then ((-1 : Int) + (ds.length : Int)).toNat else min (-1 : Int).toNat ds.length) = _
    rw [if_pos (by decide)]
    omega
  rw [e]
theorem cut_all (ds : List PyData) : cutD ds none none = ds := by
  unfold cutD
  rw [HT.sIx_none, HT.sIx_none, List.drop_zero, Nat.sub_zero, List.take_length]
/-- x in a list of whole numbers -/
theorem anyD_ints (ns : List Int) (k : Int) : ((ns.map PyData.int).any fun y => PyData.eqv y (.int k)) = decide (k ∈ ns) := by
  induction ns with
  | nil => rfl
  | cons n ns ih =>
    rw [List.map_cons, List.any_cons, ih]
    by_cases h : n = k
    · simp [PyData.eqv, h]
    · simp [PyData.eqv, h, Ne.symm h]
theorem depthD_ints (ns : List Int) : PyData.depthAll (ns.map PyData.int) = 0 := by
  induction ns with
  | nil => rfl
  | cons n ns ih =>
    show max 0 (PyData.depthAll (ns.map PyData.int)) = 0
    rw [ih]
    rfl
end DL
namespace DL
theorem drop_cons {α : Type} {xs : List α} {k : Nat} {x : α} (h : xs[k]? = some x) : xs.drop k = x :: xs.drop (k + 1) := by
  obtain ⟨h1, h2⟩ := List.getElem?_eq_some_iff.mp h
  rw [List.drop_eq_getElem_cons h1, h2]
end DL
namespace DL
open PySem L2
theorem ixN_nat {n k : Nat} (h : k < n) : ixN n (k : Int) = some k := by
  unfold ixN
  rw [if_pos (by omega), if_pos (by omega), Int.toNat_natCast]
theorem ixN_last {n : Nat} (h : 0 < n) : ixN n (-1) = some (n - 1) := by
  unfold ixN
  rw [if_neg (by decide), if_pos (by omega)]
  congr 1
  omega
end DL
namespace DL
open PySem PySem.Spec PyProof.Rows L2
/-! ### loops by what they keep -/
def sets (ρ : DEnv) : List Nat → (Nat → DE) → DEnv
  | [], _ => ρ
  | i :: is, f => sets (ρ.set i (f i)) is f
def puts (ρ : DEnv) : List (Nat × DE) → DEnv
  | [] => ρ
  | p :: ps => puts (ρ.set p.1 p.2) ps
def Keep (is : List Nat) (ρ ρ' : DEnv) : Prop := ∃ f : Nat → DE, ρ' = sets ρ is f
theorem keep_intro {is : List Nat} {ρ ρ' : DEnv} (h : ρ' = sets ρ is fun i => ρ'.getD i .un) : Keep is ρ ρ' := ⟨_, h⟩
section
variable {X : Cx} {ρ : DEnv} {D : DEnds} {tg iter c : Expr} {body : List Stmt} {pos : Pos}
theorem ri_mono {Q Q' : List PyData → Prop} (h : RI X tg iter ρ Q) (k : ∀ items, Q items → Q' items) : RI X tg iter ρ Q' := fun U σ H m E => by
  obtain ⟨wi, h1, h2⟩ := h U σ H m E
  refine ⟨fun σ' H' R => σ' = σ ∧ H' = H ∧ ∀ J H1, (Same H H1 ∧ ∃ items S0, S0 (Hide H1 U) ∧ WalkD X.K J S0 items ∧ Q items) → R J H1, ⟨fun pins s σ' H' R I hh => ?_⟩, rfl, rfl, fun J H1 ⟨e1, items, S0, a1, a2, a3⟩ => ⟨e1, items, S0, a1, a2, k items a3⟩⟩
  obtain ⟨e1, e2, hR⟩ := hh
  subst e1 e2
  have z := h1.run pins s _ _ _ I h2
  exact thn z fun v s1 z1 => thn z1 fun itv s2 ⟨it, fp, tn, J, H', a1, a2, a3, a4, a5, a6⟩ => ⟨it, fp, tn, J, H', a1, a2, a3, a4, a5, hR J H' a6⟩
/-- a loop that changes nothing but the slots is -/
theorem s_forC (t : Tgt) (is : List Nat) (h : RI X tg iter ρ fun items => Keep is ρ ρ ∧ (∀ (k : Nat) (d : PyData) (f : Nat → DE), items[k]? = some d → ∃ ds, t.parts d = some ds ∧ (t.all.all fun i => Nat.blt i (sets ρ is f).length) = true ∧
      SD X body (setVs (sets ρ is f) t.all ds) { nx := Keep is ρ, rt := D.rt, bk := D.nx, ct := Keep is ρ }) ∧ ∀ f, D.nx (sets ρ is f))
    (hp : PassesOwn (model X.prog X.w) X.A X.env X.xe) (hc : X.calm = true) (hg : PG X tg (tgR X.K t)) (hs : ∀ x, foldedSetIterable iter X.env x = pure x := by intro _; rfl) : S1 X (.For tg iter body [] pos) ρ D :=
  s_for t (ri_mono h fun items ⟨k0, a3, a4⟩ => ⟨fun _ => Keep is ρ, k0, fun k d ρ' hk ⟨f, hf⟩ => by subst hf; exact a3 k d f hk, fun ρ' ⟨f, hf⟩ => by subst hf; exact a4 f⟩) hp hc hg hs
/-- .. that brings the slots of up from turn to turn -/
theorem s_forT (t : Tgt) (is : List Nat) {α : Type} (h : RI X tg iter ρ fun items => ∃ (up : Nat → α → List (Nat × DE)) (ok : Nat → α → Prop), (∃ a, ok 0 a ∧ Keep is (puts ρ (up 0 a)) ρ) ∧ (∀ (k : Nat) (d : PyData) (f : Nat → DE) (a : α), items[k]? = some d → ok k a → ∃ ds, t.parts d = some ds ∧ (t.all.all fun i => Nat.blt i (sets (puts ρ (up k a)) is f).length) = true ∧
      SD X body (setVs (sets (puts ρ (up k a)) is f) t.all ds) { nx := fun ρ' => ∃ a', ok (k + 1) a' ∧ Keep is (puts ρ (up (k + 1) a')) ρ', rt := D.rt, bk := D.nx, ct := fun ρ' => ∃ a', ok (k + 1) a' ∧ Keep is (puts ρ (up (k + 1) a')) ρ' }) ∧ ∀ f a, ok items.length a → D.nx (sets (puts ρ (up items.length a)) is f))
    (hp : PassesOwn (model X.prog X.w) X.A X.env X.xe) (hc : X.calm = true) (hg : PG X tg (tgR X.K t)) (hs : ∀ x, foldedSetIterable iter X.env x = pure x := by intro _; rfl) : S1 X (.For tg iter body [] pos) ρ D :=
  s_for t (ri_mono h fun items ⟨up, ok, k0, a3, a4⟩ => ⟨fun k ρ' => ∃ a, ok k a ∧ Keep is (puts ρ (up k a)) ρ', k0, fun k d ρ' hk ⟨a, oa, f, hf⟩ => by subst hf; exact a3 k d f a hk oa, fun ρ' ⟨a, oa, f, hf⟩ => by subst hf; exact a4 f a oa⟩) hp hc hg hs
theorem s_whileT (is : List Nat) {α : Type} (up : α → List (Nat × DE)) (ok : α → Prop) (ms : α → Nat) (i0 : ∃ a, ok a ∧ Keep is (puts ρ (up a)) ρ)
    (step : ∀ f a, ok a → RT X c (sets (puts ρ (up a)) is f) fun b => (b = true → SD X body (sets (puts ρ (up a)) is f) { nx := fun ρ'' => ∃ a', ok a' ∧ ms a' < ms a ∧ Keep is (puts ρ (up a')) ρ'', rt := D.rt, bk := D.nx, ct := fun ρ'' => ∃ a', ok a' ∧ ms a' < ms a ∧ Keep is (puts ρ (up a')) ρ'' }) ∧ (b = false → D.nx (sets (puts ρ (up a)) is f)))
    (hp : PassesOwn (model X.prog X.w) X.A X.env X.xe) : S1 X (.While c body [] pos) ρ D := by
  obtain ⟨a0, o0, k0⟩ := i0
  refine s_while (fun m ρ' => ∃ a, ok a ∧ ms a = m ∧ Keep is (puts ρ (up a)) ρ') (ms a0) ⟨a0, o0, rfl, k0⟩ ?_ hp
  rintro m ρ' ⟨a, oa, rfl, f, rfl⟩
  refine rt_mono (step f a oa) fun b ⟨h1, h2⟩ => ⟨fun e => ?_, h2⟩
  exact sd_mono (h1 e) (fun ρ'' ⟨a', q1, q2, q3⟩ => ⟨_, q2, a', q1, rfl, q3⟩) (fun _ z => z) (fun _ z => z) (fun ρ'' ⟨a', q1, q2, q3⟩ => ⟨_, q2, a', q1, rfl, q3⟩)
end
end DL
namespace DL
open PySem L2
theorem enumD_get {xs : List PyData} {k : Nat} {d : PyData} (h : (enumD xs)[k]? = some d) : ∃ x, xs[k]? = some x ∧ d = .tuple [.int (k : Nat), x] := by
  unfold enumD at h
  rw [List.getElem?_mapIdx] at h
  obtain ⟨x, h1, rfl⟩ := Option.map_eq_some_iff.mp h
  exact ⟨x, h1, rfl⟩
theorem enumD_len {xs : List PyData} : (enumD xs).length = xs.length := by
  unfold enumD
  rw [List.length_mapIdx]
end DL
namespace DL
open PySem L2
theorem atI_map {α : Type} (xs : List α) (g : α → PyData) (d : α) (i : Int) (h : 0 ≤ i) (h2 : i < xs.length) : atI (xs.map g) i = some (g (xs.getD i.toNat d)) := by
  have hlt : i.toNat < xs.length := by omega
  have e : i = (i.toNat : Int) := by omega
  have := atI_nat (xs := xs.map g) (j := i.toNat) (v := g (xs.getD i.toNat d)) (by rw [List.getElem?_map, List.getD_eq_getElem?_getD, List.getElem?_eq_getElem hlt]; rfl)
  rw [← e] at this
  exact this
end DL
namespace DL
open PySem PySem.Spec PyProof.Rows L2
/-! ### the state in plain form -/
theorem sd_norm {X : Cx} {sts : List Stmt} {ρ ρ' : DEnv} {D : DEnds} (h : ρ = ρ') (k : SD X sts ρ' D) : SD X sts ρ D := by
  rw [h]
  exact k
theorem kil_un {i : Nat} : kil i .un = .un := rfl
theorem kil_fz {i : Nat} {d : PyData} : kil i (.fz d) = .fz d := rfl
theorem kil_ow {i : Nat} {d : PyData} : kil i (.ow d) = .ow d := rfl
theorem kil_vl {i : Nat} {d : V} : kil i (.vl d) = .vl d := rfl
theorem kil_sh {i : Nat} {d : List PyData} : kil i (.sh d) = .sh d := rfl
theorem kil_rt {i j : Nat} {a : Addr} : kil i (.rt j a) = if j = i then .un else .rt j a := rfl
theorem kil_ob {i : Nat} {u : HO} : kil i (.ob u) = .ob u := rfl
theorem kil_im {i : Nat} {f : Option (Option V) → Option Hp} : kil i (.im f) = .im f := rfl
theorem kilP_rt {j k : Nat} {p : List Nat} {a : Addr} : kilP j p (.rt k a) = .rt k a := rfl
theorem kilP_ob {j : Nat} {p : List Nat} {u : HO} : kilP j p (.ob u) = .ob u := rfl
theorem kilP_im {j : Nat} {p : List Nat} {f : Option (Option V) → Option Hp} : kilP j p (.im f) = .im f := rfl
theorem kil_al {i j : Nat} {p : List Nat} : kil i (.al j p) = if j = i then .un else .al j p := rfl
theorem kilP_un {j : Nat} {p : List Nat} : kilP j p .un = .un := rfl
theorem kilP_fz {j : Nat} {p : List Nat} {d : PyData} : kilP j p (.fz d) = .fz d := rfl
theorem kilP_ow {j : Nat} {p : List Nat} {d : PyData} : kilP j p (.ow d) = .ow d := rfl
theorem kilP_vl {j : Nat} {p : List Nat} {d : V} : kilP j p (.vl d) = .vl d := rfl
theorem kilP_sh {j : Nat} {p : List Nat} {d : List PyData} : kilP j p (.sh d) = .sh d := rfl
theorem kilP_al {j k : Nat} {p q : List Nat} : kilP j p (.al k q) = if k = j then (if p.length < q.length then .un else .al k q) else .al k q := rfl
theorem modE_ow {ρ : DEnv} {j : Nat} {p : List Nat} {d e : PyData} (h : ρ[j]? = some (.ow d)) : modE ρ j p e = (ρ.map (kilP j p)).set j (.ow (modAt d p e)) := by
  unfold modE
  rw [h]
theorem sets_nil {ρ : DEnv} {f : Nat → DE} : sets ρ [] f = ρ := rfl
theorem sets_cons {ρ : DEnv} {i : Nat} {is : List Nat} {f : Nat → DE} : sets ρ (i :: is) f = sets (ρ.set i (f i)) is f := rfl
theorem puts_nil {ρ : DEnv} : puts ρ [] = ρ := rfl
theorem puts_cons {ρ : DEnv} {i : Nat} {e : DE} {ps : List (Nat × DE)} : puts ρ ((i, e) :: ps) = puts (ρ.set i e) ps := rfl
theorem setVs_nil {ρ : DEnv} {is : List Nat} : setVs ρ is [] = ρ := by cases is <;> rfl
theorem setVs_cons {ρ : DEnv} {i : Nat} {is : List Nat} {d : PyData} {ds : List PyData} : setVs ρ (i :: is) (d :: ds) = setVs (setV ρ i (.fz d)) is ds := rfl
theorem setV_eq {ρ : DEnv} {i : Nat} {e : DE} : setV ρ i e = (ρ.map (kil i)).set i e := rfl
theorem unVs_nil {ρ : DEnv} : unVs ρ [] = ρ := rfl
theorem modAt_nil {d e : PyData} : modAt d [] e = e := by cases d <;> rfl
section
variable {K : PySem.W.Frag} {B : Hp} {W : Addr → Prop} {ρ : DEnv} {σ : L2.St} {H H1 : Hp} {F : Nat → List Addr}
theorem st_drop {k : Nat} (s : StF K B W ρ σ H F) : StF K B W (unV ρ k) σ H (setF F k []) := by
  have hu : ∀ a, UF W (setF F k []) a → UF W F a := fun a h => by
    rcases h with h | ⟨i, h⟩
    · exact .inl h
    · by_cases hi : i = k
      · rw [hi, setF_same] at h
        cases h
      · rw [setF_ne hi] at h
        exact .inr ⟨i, h⟩
  refine ⟨s.same, by unfold unV; rw [List.length_set, List.length_map]; exact s.len, fun i => ?_, fun i j a h1 h2 => ?_, fun i a h => ?_, fun i e he => ?_, fun i hi => ?_⟩
  · by_cases hi : i = k
    · rw [hi, setF_same]; exact .nil
    · rw [setF_ne hi]; exact s.nd i
  · by_cases hi : i = k
    · rw [hi, setF_same] at h1; cases h1
    · rw [setF_ne hi] at h1
      by_cases hj : j = k
      · rw [hj, setF_same] at h2; cases h2
      · rw [setF_ne hj] at h2
        exact s.dj i j a h1 h2
  · by_cases hi : i = k
    · rw [hi, setF_same] at h; cases h
    · rw [setF_ne hi] at h; exact s.fresh i a h
  · by_cases hi : i = k
    · subst hi
      rw [unV_same he, setF_same]
      rfl
    · rw [unV_ne (Ne.symm hi)] at he
      rw [setF_ne hi]
      cases hr : ρ[i]? with
      | none => rw [hr] at he; cases he
      | some u =>
        rw [hr] at he
        have he' : kil k u = e := Option.some.inj he
        subst he'
        have q := s.ent i u hr
        cases u with
        | un => exact q
        | fz d =>
          obtain ⟨a, v, b, c⟩ := q
          exact ⟨a, v, b, dp_sub (hide_same (Same.refl _) fun x o _ z => hu x z) _ _ c⟩
        | ow d => exact q
        | al j p =>
          obtain ⟨a, v, w, d, d', b, c, g, t⟩ := q
          show Ent K _ _ σ H _ _ (if j = k then .un else .al j p)
          by_cases hj : j = k
          · rw [if_pos hj]; exact a
          · rw [if_neg hj]
            exact ⟨a, v, w, d, d', b, by rw [unV_ne (Ne.symm hj), c]; rfl, g, t⟩
        | vl v => exact q
        | sh ds =>
          obtain ⟨a, vs, x1, x2, x3, x4⟩ := q
          exact ⟨a, vs, x1, x2, x3, dps_sub (hide_same (Same.refl _) fun x o _ z => hu x z) _ _ x4⟩
        | ob u => exact q
        | rt j a =>
          show Ent K _ _ σ H _ _ (if j = k then .un else .rt j a)
          by_cases hj : j = k
          · rw [if_pos hj]; exact q.1
          · rw [if_neg hj]; exact q
        | im f =>
          obtain ⟨n, a, x1, x2⟩ := q
          exact ⟨n, a, x1, x2.trans (hide_same (Same.refl _) (fun x o _ z => hu x z))⟩
        | io _ _ _ => exact q
  · by_cases hk : i = k
    · rw [hk, setF_same]
    · rw [setF_ne hk]
      rw [unV_ne (Ne.symm hk)] at hi
      cases hr : ρ[i]? with
      | none => exact s.out i hr
      | some u => rw [hr] at hi; cases hi
end
theorem sd_wipe (is : List Nat) {X : Cx} {sts : List Stmt} {ρ : DEnv} {D : DEnds} (k : SD X sts (unVs ρ is) D) : SD X sts ρ D := by
  induction is generalizing ρ with
  | nil => exact k
  | cons i is ih => exact fun B W σ H hW ⟨F, s⟩ => ih (ρ := unV ρ i) k B W σ H hW ⟨_, st_drop s⟩
theorem unVs_cons {ρ : DEnv} {k : Nat} {ks : List Nat} : unVs ρ (k :: ks) = unVs ((ρ.map (kil k)).set k .un) ks := rfl
theorem dmap_cons {f : DE → DE} {a : DE} {l : List DE} : List.map f (a :: l) = f a :: List.map f l := rfl
theorem dmap_nil {f : DE → DE} : List.map f [] = [] := rfl
theorem pmap_cons {f : PyData → DE} {a : PyData} {l : List PyData} : List.map f (a :: l) = f a :: List.map f l := rfl
theorem pmap_nil {f : PyData → DE} : List.map f [] = [] := rfl
theorem dapp_cons {a : DE} {l m : List DE} : (a :: l) ++ m = a :: (l ++ m) := rfl
theorem dapp_nil {m : List DE} : [] ++ m = m := rfl
theorem dset_zero {a b : DE} {l : List DE} : (a :: l).set 0 b = b :: l := rfl
theorem dset_succ {a b : DE} {l : List DE} {n : Nat} : (a :: l).set (n + 1) b = a :: l.set n b := rfl
end DL
namespace DL
open PySem PySem.Spec PyProof.Rows L2
/-! ### tables -/
abbrev rowsD (rows : List (List Int)) : PyData := .list (rows.map numsD)
def rng (n : Nat) : List Int := (List.range n).map fun k => (0 + (k : Nat) : Int)
theorem rng_take (n k : Nat) (h : k < n) : (rng n).take (k + 1) = (rng n).take k ++ [(0 + (k : Nat) : Int)] := by
  have : (rng n)[k]? = some (0 + (k : Nat) : Int) := by
    unfold rng
    rw [List.getElem?_map, List.getElem?_range h]
    rfl
  rw [List.take_add_one, this]
  rfl
theorem rng_len (n : Nat) : (rng n).length = n := by
  unfold rng
  rw [List.length_map, List.length_range]
theorem rng_mem {n : Nat} {x : Int} : x ∈ rng n ↔ 0 ≤ x ∧ x < n := by
  unfold rng
  rw [List.mem_map]
  constructor
  · rintro ⟨k, hk, rfl⟩
    have := List.mem_range.mp hk
    omega
  · rintro ⟨h1, h2⟩
    exact ⟨x.toNat, List.mem_range.mpr (by omega), by omega⟩
theorem rng_nodup (n : Nat) : (rng n).Nodup := by
  unfold rng
  refine List.Pairwise.map _ (fun a b h => ?_) List.nodup_range
  omega
abbrev Table := List Int × List (List Int)
abbrev tabD (t : Table) : PyData := .tuple [numsD t.1, rowsD t.2]
def fullO (n : Nat) (o : List Int) : List Int := o ++ [(n : Int)] ++ (rng n).filter fun x => decide (x ∉ o)
theorem fullO_len (n : Nat) (o : List Int) : (fullO n o).length ≤ o.length + 1 + n := by
  unfold fullO
  rw [List.length_append, List.length_append, List.length_singleton]
  have := List.length_filter_le (fun x => decide (x ∉ o)) (rng n)
  rw [rng_len] at this
  omega
section
variable {X : Cx} {ρ : DEnv} {a : Expr} {es : List Expr} {pos p p2 : Pos}
/-- list(range(a)) -/
theorem rng_eq (n : Nat) : numsD (rng n) = .list (rngD 0 n) := by
  unfold rng rngD
  rw [numsD, List.map_map]
  rfl
theorem rd_listRg {Q : DE → Prop} (hc : X.calm = true) (hml : X.mg "list" = none) (hmr : X.mg "range" = none) (h : RV X a ρ fun d => ∃ n : Nat, d = .int n ∧ n ≤ 16777216 ∧ Q (.ow (numsD (rng n)))) (hg : Gl X "list" := by rfl) (hg2 : Gl X "range" := by rfl)
    (na : starEach [a] X.env = (false, eval a X.env) :: starEach [] X.env := by rfl) (nb : starEach [.Call (.Name "range" p2) [a] [] pos] X.env = (false, eval (.Call (.Name "range" p2) [a] [] pos) X.env) :: starEach [] X.env := by rfl) {pos2 : Pos} : RD X (.Call (.Name "list" p) [.Call (.Name "range" p2) [a] [] pos] [] pos2) ρ Q := fun U σ H m E => by
  refine we_of (pe_listRg hc hg hml (prg_1 hg2 hmr pe_w na) nb) (we_mono (h U σ H m E) fun v H1 ⟨e1, d, pp, n, ed, hn, q⟩ => ?_)
  subst ed
  cases pp
  refine ⟨(n : Int), rfl, RgOk.of_le (by omega) (by omega) (by omega) (by omega), fun l hl => ⟨e1.trans (same_new hl), .ow (numsD (rng n)), ?_, q⟩⟩
  have ev : rgV 0 (n : Int) = (rng n).map V.int := by
    unfold rgV rng
    rw [List.map_map]
    rfl
  rw [ev]
  obtain ⟨S, o, nd, f⟩ := ow_new (K := X.K) hl (dps_ints (rng n)) (lfs_ints (rng n))
  exact ⟨S, o, nd, fun b hb => e1.free (f b hb)⟩
end
end DL
namespace DL
theorem erase_map {α β : Type} (f : α → β) : ∀ (l : List α) (i : Nat), (l.map f).eraseIdx i = (l.eraseIdx i).map f
  | [], _ => rfl
  | _ :: _, 0 => rfl
  | a :: l, i + 1 => by
    show f a :: (l.map f).eraseIdx i = f a :: (l.eraseIdx i).map f
    rw [erase_map f l i]
theorem perm_erase {α : Type} : ∀ (l : List α) (i : Nat) (h : i < l.length), (l[i] :: l.eraseIdx i).Perm l
  | [], _, h => absurd h (Nat.not_lt_zero _)
  | _ :: _, 0, _ => List.Perm.refl _
  | a :: l, i + 1, h => by
    have h' : i < l.length := Nat.lt_of_succ_lt_succ h
    show (l[i] :: a :: l.eraseIdx i).Perm (a :: l)
    exact (List.Perm.swap a l[i] _).trans ((perm_erase l i h').cons a)
end DL
namespace DL
open PySem PySem.Spec PyProof.Rows L2
section
variable {X : Cx} {ρ : DEnv} {D : DEnds} {o e : Expr} {cpos apos pos : Pos}
/-- list.index, whole numbers -/
theorem rd_index {Q : DE → Prop} (h : RV X o ρ fun d => ∃ ns : List Int, d = .list (ns.map .int) ∧ RV X e ρ fun d2 => ∃ k j, d2 = .int k ∧ ns[j]? = some k ∧ (∀ m : Nat, m < j → ns[m]? ≠ some k) ∧ Q (.fz (.int (j : Nat)))) (hbase : attributeBase o "index" X.env (eval o X.env) = eval o X.env := by rfl)
    (hfew : ((backTo cpos (starEach (e :: []) X.env)).all (fun x => !x.1) && (backToKw cpos (keywordEach [] X.env)).all (fun x => x.1.isSome) && decide ((e :: []).length + ([] : List Keyword).length + (if ([] : List Keyword).isEmpty then 0 else 1) < 30)) = true := by rfl)
    (hline : (apos.endLine == cpos.line) = true := by rfl) (hst : starEach (e :: []) X.env = (false, eval e X.env) :: starEach [] X.env := by rfl) (hplain : (backTo cpos (starEach [] X.env)).any (·.1) = false := by rfl) : RD X (.Call (.Attribute o "index" apos) [e] [] cpos) ρ Q := fun U σ H m E => by
  refine we_of (pe_bm PySem.F.plainAttrs_list PySem.F.slot_list_index PySem.F.type_list_index mt_index pe_w (pa_cons pe_w pa_nil hst) hbase hfew hline hst hplain) ?_
  refine we_mono (h U σ H m E) fun v H1 ⟨e1, d, pp, ns, ed, h2⟩ => ?_
  subst ed
  cases pp with
  | lst g1 g2 =>
    have := dps_intsV g2
    subst this
    refine ⟨.inl ⟨rfl, _, g1⟩, we_mono (h2 U σ H1 (m.mono e1) (envR_same E e1)) fun u H2 ⟨e2, d2, p2, k, j, ed2, hj, hno, q⟩ => ?_⟩
    subst ed2
    cases p2
    refine ⟨_, ns.map V.int, .int k, j, .int k, rfl, rfl, e2.seq g1, rfl, ?_, by rw [List.getElem?_map, hj]; rfl, by simp [eqV], fun n z' hn hz => ?_, e1.trans e2, .fz (.int _), Rp.int _, q⟩
    · rw [List.all_eq_true]
      intro z hz
      obtain ⟨i, _, rfl⟩ := List.mem_map.mp hz
      rfl
    · obtain ⟨i, hi, rfl⟩ := get_map hz
      have : i ≠ k := fun z => hno n hn (by rw [hi, z])
      simp [eqV, this]
/-- x.reverse() -/
theorem s_reverse (h : RD X o ρ fun oo => ∃ j p ds, oo = .al j p ∧ dat ρ oo = some (.list ds) ∧ lfs ds = true ∧ D.nx (modE ρ j p (.list ds.reverse))) (hbase : attributeBase o "reverse" X.env (eval o X.env) = eval o X.env := by rfl) (hline : (apos.endLine == cpos.line) = true := by rfl)
    (hs : swapsWith (.Call (.Attribute o "reverse" apos) [] [] cpos) none pos.line X.env = pure false := by rfl) : S1 X (.Expr (.Call (.Attribute o "reverse" apos) [] [] cpos) pos) ρ D := fun B W σ H hW ⟨F, s⟩ => by
  refine ws_of (ps_expr (pe_bm0 PySem.F.plainAttrs_list PySem.F.slot_list_reverse PySem.F.type_list_reverse mt_reverse pe_w hbase hline) hs) ?_
  refine we_mono (h _ σ H (s.mut hW) s.env) fun v H1 ⟨e1, oo, r, j, p, ds, eo, hd, hf, q⟩ => ?_
  subst eo
  obtain ⟨a, w, d0, ev, hj, hσ, hat⟩ := st_place s e1 r hd
  subst ev
  obtain ⟨vs, Sa, ha, hO, nSa, put⟩ := st_mod0 s e1 hj hσ hat
  refine ⟨.inl ⟨rfl, _, .inl (.inl ha)⟩, a, vs, rfl, rfl, ha, _, ?_, q⟩
  refine put _ _ [] (owns_lf (dps_rev (owns_dp _ _ _ hO)) ?_) .nil fun x hx => by cases hx
  have key : ∀ {xs : List PyData}, lfs xs = true → lfs xs.reverse = true := by
    intro xs
    induction xs with
    | nil => exact fun h => h
    | cons a r ih =>
      intro h
      have h' : lf a = true ∧ lfs r = true := by simpa [lfs] using h
      rw [List.reverse_cons]
      exact lfs_app (ih h'.2) (by simp [lfs, h'.1])
  exact key hf
/-- displays as data alone -/
theorem rv_list {es : List Expr} {Q : PyData → Prop} (h : RA X es ρ fun ds => ds.length ≤ sizeLine ∧ Q (.list ds)) : RV X (.List es pos) ρ Q := fun U σ H m E =>
  we_of (pe_lst pa_w) (wa_mono (h U σ H m E) fun vs H1 ⟨e1, ds, pp, hz, q⟩ => ⟨by rw [dps_len pp]; exact hz, fun p hp => ⟨e1.trans (same_new hp), .list ds, .lst (.inl (.inl upd_same)) (dps_sub (same_new hp) _ _ pp), q⟩⟩)
theorem rv_tup {es : List Expr} {x1} {Q : PyData → Prop} (h : RA X es ρ fun ds => ds.length ≤ sizeLine ∧ Q (.tuple ds)) : RV X (.Tuple es x1 pos) ρ Q := fun U σ H m E =>
  we_of (pe_tup pa_w) (wa_mono (h U σ H m E) fun vs H1 ⟨e1, ds, pp, hz, q⟩ => ⟨by rw [dps_len pp]; exact hz, fun p hp => ⟨e1.trans (same_new hp), .tuple ds, .tup (.inl (.inl upd_same)) (dps_sub (same_new hp) _ _ pp), q⟩⟩)
/-- a product of which one part is small -/
theorem rd_mulS {a b : Expr} {Q : DE → Prop} (h : RV X a ρ fun d1 => RV X b ρ fun d2 => ∃ i j, d1 = .int i ∧ d2 = .int j ∧ CMul i j ∧ Q (.fz (.int (i * j)))) : RD X (.BinOp a .Mult b pos) ρ Q := fun U σ H m E => by
  refine we_of (pe_op op_mul pe_w pe_w) (we_mono (h U σ H m E) fun x H1 ⟨e1, d1, p1, h2⟩ => we_mono (h2 U σ H1 (m.mono e1) (envR_same E e1)) fun y H2 ⟨e2, d2, p2, i, j, ed1, ed2, hc, q⟩ => ?_)
  subst ed1 ed2
  cases p1
  cases p2
  exact ⟨i, j, rfl, rfl, hc, e1.trans e2, .fz (.int _), Rp.int _, q⟩
theorem rgC14 {j : Int} (h : 0 ≤ j) (h2 : j < 64) : ∃ n : Nat, RgC 0 j 14 n := by
  have key : ∀ j : Fin 64, Builtin.Range.small 0 (j.val : Int) 14 = true ∧ Builtin.Range.rangeSize 0 (j.val : Int) 14 = ((Builtin.Range.rangeSize 0 (j.val : Int) 14).toNat : Nat) := by decide +kernel
  have k := key ⟨j.toNat, by omega⟩
  have e : (((⟨j.toNat, by omega⟩ : Fin 64).val : Nat) : Int) = j := by
    show ((j.toNat : Nat) : Int) = j
    omega
  rw [e] at k
  exact ⟨_, by decide, by decide, k.1, k.2⟩
end
end DL
namespace DL
open PySem PySem.Spec PyProof.Rows L2
section
variable {P0 : Program} {w : World} {K : PySem.W.Frag} {mg : Str → Option Value} {base : Heap}
/-! ### defs with defaults -/
theorem fn_okDd {x qual : Str} {st : Stmt} {f : Addr} {fd : FuncData} {N ps : List Str} {k : Nat} {P : List PyData → PyData → Prop} {dvs : List V} (F : FunD K x qual (defArgs st) (defBody st) (defScope st) dvs [] f fd) (S : FnScope N ps (defScope st)) (har : ∀ ds d, P ds d → ds.length = ps.length)
    (body : ∀ (cdv : Value) (A : Around) (outer : List Env) (s : Shared) (H : Hp) (E : XK), Room k (A.deeper (envOfC qual (defScope st) s.heap.objs.size f cdv)) → ∀ ds d, P ds d →
      SD (cxOf CX0 P0 w K mg base N qual (defScope st) f cdv A outer s H E).nox (defBody st) (ds.map .fz ++ List.replicate (N.length - ps.length) .un) (bodyE d)) : FnOk P0 w K mg base CX0 (k + 1) f fd ps (spD K P) := by
  refine F.ok S (fun vs H Q E ⟨ds, d, h1, h2, _⟩ => by rw [dps_len h1, har _ _ h2]) (fun cdv A outer s H vs Q E hr ⟨ds, d, h1, h2, h3⟩ => ?_)
  refine ⟨_, PSs.nox pb_w, ?_⟩
  have hN : ps.length ≤ N.length := by
    have e := S.pre
    rw [← e, List.length_take]
    exact Nat.min_le_right _ _
  have b := body cdv A outer s H E hr ds d h2 H (fun _ => False) (L2.start N vs) H (fun a z => z.elim) ⟨_, st_start h1 (by rw [har _ _ h2]; omega)⟩
  have fin : ∀ v H', (Same H H' ∧ ∃ o, RetR K H (fun _ => False) H' v o ∧ (bodyE d).rt o) → Q v H' := fun v H' ⟨e, o, r, q⟩ => by
    rcases q with q | ⟨q, hl⟩
    · subst q
      obtain ⟨T, a, b, c⟩ := r
      exact h3 v H' T e a b c
    · subst q
      exact h3 v H' [] e (.flt (dp_sub hide_sub _ _ r) hl) .nil (fun a z => by cases z)
  exact wb_mono b (fun σ' H' ⟨ρ', ⟨F', s'⟩, q⟩ => fin .non H' ⟨s'.same, .fz .none, Rp.non, .inr ⟨by rw [show d = .none from q], by rw [show d = .none from q]; rfl⟩⟩) fin (fun _ _ ⟨_, _, q⟩ => False.elim q) (fun _ _ ⟨_, _, q⟩ => False.elim q)
/-- a def of the text whose last parameters have the defaults dvs -/
def TxD (K : PySem.W.Frag) (mg : Str → Option Value) (x : Str) (st : Stmt) (ps : List Str) (dvs : List V) : Prop :=
  ∃ f fd, FunD K x x (defArgs st) (defBody st) (defScope st) dvs [] f fd ∧ mg x = some (.ref f) ∧ Binds K fd ps [] ∧ ∃ ds, Vals dvs ds ∧ Binds K fd ps ds
def FnCd (P0 : Program) (w : World) (K : PySem.W.Frag) (mg : Str → Option Value) (base : Heap) (x : Str) (k : Nat) (dvs : List V) (P : List PyData → PyData → Prop) : Prop :=
  ∃ f fd ps, FnOk P0 w K mg base CX0 k f fd ps (spD K P) ∧ mg x = some (.ref f) ∧ PySem.W.keepIn K (.ref f) = true ∧ Binds K fd ps [] ∧ ∃ ds, Vals dvs ds ∧ Binds K fd ps ds
theorem FnCd.all {x : Str} {k : Nat} {dvs : List V} {P : List PyData → PyData → Prop} (G : FnCd P0 w K mg base x k dvs P) : FnC P0 w K mg base x k P := by
  obtain ⟨f, fd, ps, h1, h2, h3, h4, _⟩ := G
  exact ⟨f, fd, ps, h1, h2, h3, h4⟩
theorem callCd {X : Cx} {x : Str} {P : List PyData → PyData → Prop} {k k' : Nat} {dvs : List V} {dds : List PyData} (G : FnCd X.prog X.w X.K X.mg X.base x k dvs P) (hr : Room k' X.A) (hdd : ∀ H, RpAll X.K H dvs dds) (hk : k ≤ k' := by decide) : CallD X x P dds := by
  obtain ⟨f, fd, ps, h1, h2, h3, h4, ds, hv, hb⟩ := G
  exact ⟨_, k, f, fd, ps, ds, dvs, h1, hr.mono hk, h2, h3, hb, hv, hdd, fun _ _ _ => pass0⟩
theorem fn_Cd {x : Str} {st : Stmt} {N ps : List Str} {k : Nat} {dvs : List V} {P : List PyData → PyData → Prop} (T : TxD K mg x st ps dvs) (S : FnScope N ps (defScope st)) (har : ∀ ds d, P ds d → ds.length = ps.length)
    (body : ∀ (f : Addr) (cdv : Value) (A : Around) (outer : List Env) (s : Shared) (H : Hp) (E : XK), Room k (A.deeper (envOfC x (defScope st) s.heap.objs.size f cdv)) → ∀ ds d, P ds d →
      SD (cxOf CX0 P0 w K mg base N x (defScope st) f cdv A outer s H E).nox (defBody st) (ds.map .fz ++ List.replicate (N.length - ps.length) .un) (bodyE d)) : FnCd P0 w K mg base x (k + 1) dvs P := by
  obtain ⟨f, fd, F, hm, hb, hd⟩ := T
  exact ⟨f, fd, ps, fn_okDd F S har (body f), hm, F.kp, hb, hd⟩
/-- how it is made: one default -/
theorem txd_mk {x : Str} {st : Stmt} {ps : List Str} {u : V} {f : Addr} {fd : FuncData} (F : FunD K x x (defArgs st) (defBody st) (defScope st) [u] [] f fd) (hm : mg x = some (.ref f)) (n : Nat) (hn : n + 1 = ps.length)
    (h1 : ∀ (T : Addr) (kV doc pm : Value) (an : Option Addr) (cdv ct : Value) (us its : List Value), us.length = n + 1 → its.length = 1 →
      ∃ k, bindArgs (PySem.W.fnOf x x (defArgs st) (defBody st) (defScope st) (.ref T) kV doc pm an cdv ct) ⟨us, []⟩ = seqItems? (.ref T) >>= k ∧ k (some its.toArray) = pure (ps.zip (us ++ its.drop 1)))
    (h0 : ∀ (T : Addr) (kV doc pm : Value) (an : Option Addr) (cdv ct : Value) (us its : List Value), us.length = n → its.length = 1 →
      ∃ k, bindArgs (PySem.W.fnOf x x (defArgs st) (defBody st) (defScope st) (.ref T) kV doc pm an cdv ct) ⟨us, []⟩ = seqItems? (.ref T) >>= k ∧ k (some its.toArray) = pure (ps.zip (us ++ its.drop 0))) : TxD K mg x st ps [u] := by
  refine ⟨f, fd, F, hm, ?_, ?_⟩
  · obtain ⟨ds, hv, hb⟩ := F.binds1 (ps := ps) (n + 1) 1 (by simp) (by simp; exact hn) h1
    have : ds = [] := by
      cases ds with
      | nil => rfl
      | cons a r => cases hv
    rw [this] at hb
    exact hb
  · exact F.binds1 (ps := ps) n 0 (by simp) (by simp; exact hn) h0
theorem fund_mk {x : Str} {st : Stmt} {u : V} {uv : Value} {f : Addr} {oc kV dc pm cd ct : Value} {od an : Option Addr} {sl : Array (Option Value)} {T : Addr} {to : Obj} {n : Nat} (l : K.lookup f = some ⟨oc, od, .func (PySem.W.fnOf x x (defArgs st) (defBody st) (defScope st) (.ref T) kV dc pm an cd ct), sl⟩)
    (lT : K.lookup T = some to) (hto : to.data = .seq #[uv] n) (r : RelV u uv) (c : PySem.W.codeIn K cd x = true) (k : PySem.W.keepIn K (.ref f) = true) : FunD K x x (defArgs st) (defBody st) (defScope st) [u] [] f (PySem.W.fnOf x x (defArgs st) (defBody st) (defScope st) (.ref T) kV dc pm an cd ct) :=
  ⟨⟨oc, od, .ref T, kV, dc, pm, an, cd, ct, sl, rfl, l, c, .inr ⟨by simp, T, to, [uv], n, rfl, lT, hto, .cons r .nil⟩, .inl rfl⟩, k⟩
end
/-! ### len(set(xs)), whole numbers that differ -/
section
variable {X : Cx} {ρ : DEnv} {a : Expr} {p p2 q pos : Pos}
theorem rd_lenSet {Q : DE → Prop} (hc : X.calm = true) (hm : X.mg "len" = none) (hm2 : X.mg "set" = none) (h : RV X a ρ fun d => ∃ ns : List Int, d = .list (ns.map .int) ∧ ns.Nodup ∧ ns.length ≤ 4000 ∧ Q (.fz (.int ns.length))) (hg : Gl X "len" := by rfl) (hg2 : Gl X "set" := by rfl)
    (na : starEach [a] X.env = (false, eval a X.env) :: starEach [] X.env := by rfl) : RD X (.Call (.Name "len" p) [.Call (.Name "set" p2) [a] [] q] [] pos) ρ Q := fun U σ H m E =>
  we_of (RZ.pe_lenSetI hg hm hg2 hm2 pe_w hc na) (we_mono (h U σ H m E) fun v H' ⟨s, d, pp, ns, e, nd, hl, qq⟩ => by
    subst e
    cases pp with
    | lst g1 g2 =>
      rw [dps_intsV g2] at g1
      exact ⟨_, ns, rfl, g1, nd, hl, s, .fz (.int ns.length), Rp.int _, qq⟩)
end
end DL
namespace DL
open PySem PySem.Spec PyProof.Rows L2
/-! ### fractions, as rational numbers -/
abbrev frQ (q : Rat) : PyData := .tuple [.int q.num, .int ((q.den : Nat) : Int)]
theorem smI {i : Int} (k : Nat) (h : i.natAbs < 2 ^ k) (hk : k ≤ 9000) : Sm i := by
  show i.natAbs.log2 < 9000
  by_cases h0 : i.natAbs = 0
  · rw [h0]
    exact (by decide : Nat.log2 0 < 9000)
  · exact Nat.lt_of_lt_of_le ((Nat.log2_lt h0).mpr h) hk
theorem mul_pow_lt {a b j k : Nat} (h : a < 2 ^ j) (h2 : b < 2 ^ k) : a * b < 2 ^ (j + k) := by
  rw [Nat.pow_add]
  exact Nat.mul_lt_mul'' h h2
structure SmQ (q : Rat) : Prop where
  n : q.num.natAbs < 2 ^ 4000
  d : q.den < 2 ^ 4000
section
variable {a b q : Rat}
theorem SmQ.smn (h : SmQ q) : Sm q.num := smI 4000 h.n (by decide)
theorem SmQ.smd (h : SmQ q) : Sm ((q.den : Nat) : Int) := smI 4000 (by rw [Int.natAbs_natCast]; exact h.d) (by decide)
theorem SmQ.nd (ha : SmQ a) (hb : SmQ b) : CMulW a.num ((b.den : Nat) : Int) := Sm.mul ha.smn hb.smd
theorem SmQ.nn (ha : SmQ a) (hb : SmQ b) : CMulW a.num b.num := Sm.mul ha.smn hb.smn
theorem SmQ.dd (ha : SmQ a) (hb : SmQ b) : CMulW ((a.den : Nat) : Int) ((b.den : Nat) : Int) := Sm.mul ha.smd hb.smd
theorem SmQ.dn (ha : SmQ a) (hb : SmQ b) : CMulW ((a.den : Nat) : Int) b.num := Sm.mul ha.smd hb.smn
theorem SmQ.ddS (ha : SmQ a) (hb : SmQ b) : Sm (((a.den : Nat) : Int) * ((b.den : Nat) : Int)) := by
  refine smI (4000 + 4000) ?_ (by decide)
  rw [Int.natAbs_mul, Int.natAbs_natCast, Int.natAbs_natCast]
  exact mul_pow_lt ha.d hb.d
theorem SmQ.dnS (ha : SmQ a) (hb : SmQ b) : Sm (((a.den : Nat) : Int) * b.num) := by
  refine smI (4000 + 4000) ?_ (by decide)
  rw [Int.natAbs_mul, Int.natAbs_natCast]
  exact mul_pow_lt ha.d hb.n
theorem SmQ.neg (h : SmQ q) : SmQ (-q) := ⟨by rw [Rat.neg_num, Int.natAbs_neg]; exact h.n, h.d⟩
end
theorem den_nz (q : Rat) : ((q.den : Nat) : Int) ≠ 0 := by have := q.den_nz; omega
theorem den_pos (q : Rat) : 0 < ((q.den : Nat) : Int) := by have := q.den_nz; omega
theorem frac_pos {a b : Int} (h : 0 < b) : a / (Int.gcd a b : Nat) = (Rat.divInt a b).num ∧ b / (Int.gcd a b : Nat) = ((Rat.divInt a b).den : Nat) := by
  constructor
  · rw [Rat.num_divInt, Int.sign_eq_one_of_pos h, Int.one_mul, Int.gcd_comm]
  · rw [Rat.den_divInt, if_neg (by omega), Int.natCast_ediv, Int.natAbs_of_nonneg (by omega), Int.gcd_comm]
theorem fdiv_neg_dvd {a g : Int} (h : g ∣ a) (g0 : 0 < g) : a.fdiv (0 - g) = -(a / g) := by
  obtain ⟨c, rfl⟩ := h
  rw [Int.mul_ediv_cancel_left _ (by omega)]
  have : g * c = (0 - g) * (-c) := by rw [Int.zero_sub, Int.neg_mul_neg]
  rw [this, Int.mul_fdiv_cancel_left _ (by omega)]
theorem frac_neg {a b : Int} (h : b < 0) : a.fdiv (0 - (Int.gcd a b : Nat)) = (Rat.divInt a b).num ∧ b.fdiv (0 - (Int.gcd a b : Nat)) = ((Rat.divInt a b).den : Nat) := by
  have g0 : 0 < Int.gcd a b := Int.gcd_pos_of_ne_zero_right _ (by omega)
  constructor
  · rw [fdiv_neg_dvd (Int.gcd_dvd_left ..) (by omega), Rat.num_divInt, Int.sign_eq_neg_one_of_neg h, Int.gcd_comm b a, Int.neg_one_mul]
    rw [Int.neg_ediv_of_dvd (Int.gcd_dvd_left ..)]
  · rw [fdiv_neg_dvd (Int.gcd_dvd_right ..) (by omega), Rat.den_divInt, if_neg (by omega), Int.natCast_ediv, Int.gcd_comm b a]
    have : ((b.natAbs : Nat) : Int) = -b := by omega
    rw [this, Int.neg_ediv_of_dvd (Int.gcd_dvd_right ..)]
theorem q_add (a b : Rat) : Rat.divInt (a.num * (b.den : Nat) + b.num * (a.den : Nat)) ((a.den : Nat) * (b.den : Nat)) = a + b := by
  rw [Rat.add_def', ← Int.natCast_mul, Rat.divInt_ofNat]
theorem q_sub (a b : Rat) : Rat.divInt (a.num * (b.den : Nat) - b.num * (a.den : Nat)) ((a.den : Nat) * (b.den : Nat)) = a - b := by
  rw [Rat.sub_def', ← Int.natCast_mul, Rat.divInt_ofNat]
theorem q_mul (a b : Rat) : Rat.divInt (a.num * b.num) ((a.den : Nat) * (b.den : Nat)) = a * b := by
  rw [Rat.mul_def', ← Int.natCast_mul, Rat.divInt_ofNat]
theorem q_div (a b : Rat) : Rat.divInt (a.num * (b.den : Nat)) ((a.den : Nat) * b.num) = a / b := by
  rw [Rat.div_def, Rat.inv_def]
  have h := Rat.divInt_mul_divInt a.num (b.den : Nat) (d₁ := (a.den : Nat)) (d₂ := b.num)
  rw [Rat.num_divInt_den] at h
  exact h.symm
theorem q_lt (a b : Rat) : decide (a.num * (b.den : Nat) < b.num * (a.den : Nat)) = decide (a < b) :=
  decide_eq_decide.mpr (Rat.lt_iff a b).symm
theorem frQ_inj {a b : Rat} (h : frQ a = frQ b) : a = b := by
  simp only [PyData.tuple.injEq, List.cons.injEq, PyData.int.injEq, and_true] at h
  exact Rat.ext h.1 (by omega)
/-! ### with one bottom -/
def OnD (D : Nat) (q : Rat) : Prop := ∃ z : Int, q * (D : Rat) = (z : Rat)
section
variable {D E : Nat} {a b q : Rat}
theorem OnD.add (h : OnD D a) (g : OnD D b) : OnD D (a + b) := by
  obtain ⟨x, hx⟩ := h
  obtain ⟨y, hy⟩ := g
  exact ⟨x + y, by rw [Rat.add_mul, hx, hy, Rat.intCast_add]⟩
theorem OnD.neg (h : OnD D a) : OnD D (-a) := by
  obtain ⟨x, hx⟩ := h
  exact ⟨-x, by rw [Rat.neg_mul, hx, Rat.intCast_neg]⟩
theorem OnD.sub (h : OnD D a) (g : OnD D b) : OnD D (a - b) := by
  rw [Rat.sub_eq_add_neg]
  exact h.add g.neg
theorem OnD.int (z : Int) : OnD D (z : Rat) := ⟨z * D, by rw [Rat.intCast_mul, Rat.intCast_natCast]⟩
theorem OnD.mul (h : OnD D a) (g : OnD E b) : OnD (D * E) (a * b) := by
  obtain ⟨x, hx⟩ := h
  obtain ⟨y, hy⟩ := g
  refine ⟨x * y, ?_⟩
  rw [Rat.intCast_mul, ← hx, ← hy, Rat.natCast_mul]
  grind
theorem OnD.mulI (h : OnD D a) (z : Int) : OnD D (a * (z : Rat)) := by
  obtain ⟨x, hx⟩ := h
  refine ⟨x * z, ?_⟩
  rw [Rat.intCast_mul, ← hx]
  grind
theorem OnD.dvd (h : OnD D a) (d : D ∣ E) : OnD E a := by
  obtain ⟨x, hx⟩ := h
  obtain ⟨c, rfl⟩ := d
  refine ⟨x * (c : Int), ?_⟩
  rw [Rat.intCast_mul, ← hx, Rat.natCast_mul, Rat.intCast_natCast]
  grind
theorem OnD.divN (h : OnD D a) {n : Nat} (n0 : 0 < n) : OnD (D * n) (a / (n : Rat)) := by
  obtain ⟨x, hx⟩ := h
  refine ⟨x, ?_⟩
  have : (n : Rat) ≠ 0 := by
    have := Rat.natCast_pos.mpr n0
    grind
  rw [Rat.natCast_mul, ← hx]
  have h2 : a / (n : Rat) * (n : Rat) = a := Rat.div_mul_cancel this
  grind
theorem OnD.self (q : Rat) : OnD q.den q := ⟨q.num, by
  have h : (q.den : Rat) ≠ 0 := by
    have := Rat.natCast_pos.mpr (Nat.pos_of_ne_zero q.den_nz)
    grind
  have : q = (q.num : Rat) / (q.den : Rat) := by rw [← Rat.mkRat_eq_div, Rat.mkRat_self]
  calc q * (q.den : Rat) = (q.num : Rat) / (q.den : Rat) * (q.den : Rat) := by rw [← this]
    _ = q.num := Rat.div_mul_cancel h⟩
theorem OnD.eq (h : OnD D q) (d0 : 0 < D) : ∃ z : Int, q = Rat.divInt z D ∧ q * (D : Rat) = z := by
  obtain ⟨z, hz⟩ := h
  refine ⟨z, ?_, hz⟩
  have h0 : (D : Rat) ≠ 0 := by
    have := Rat.natCast_pos.mpr d0
    grind
  rw [Rat.divInt_eq_div, ← hz, Rat.intCast_natCast, Rat.mul_div_cancel h0]
theorem OnD.den_dvd (h : OnD D q) (d0 : 0 < D) : q.den ∣ D := by
  obtain ⟨z, rfl, _⟩ := h.eq d0
  rw [Rat.den_divInt, if_neg (by omega), Int.natAbs_natCast]
  exact Nat.div_dvd_of_dvd (by have := Int.gcd_dvd_left (a := (D : Int)) (b := z); exact Int.natCast_dvd_natCast.mp this)
theorem smQ_of {M : Nat} (h : OnD D q) (d0 : 0 < D) (hD : D < 2 ^ 1990) (hM : M < 2 ^ 1990) (lo : -(M : Rat) ≤ q) (hi : q ≤ (M : Rat)) : SmQ q := by
  have hden := Nat.le_of_dvd d0 (h.den_dvd d0)
  refine ⟨?_, Nat.lt_of_le_of_lt hden (Nat.lt_of_lt_of_le hD (Nat.pow_le_pow_right (by decide) (by decide)))⟩
  have hn : q * (q.den : Rat) = (q.num : Rat) := by
    have h : (q.den : Rat) ≠ 0 := by
      have := Rat.natCast_pos.mpr (Nat.pos_of_ne_zero q.den_nz)
      grind
    have : q = (q.num : Rat) / (q.den : Rat) := by rw [← Rat.mkRat_eq_div, Rat.mkRat_self]
    calc q * (q.den : Rat) = (q.num : Rat) / (q.den : Rat) * (q.den : Rat) := by rw [← this]
      _ = q.num := Rat.div_mul_cancel h
  have p : (0 : Rat) ≤ (q.den : Rat) := Rat.natCast_nonneg
  have h1 : q * (q.den : Rat) ≤ (M : Rat) * (q.den : Rat) := Rat.mul_le_mul_of_nonneg_right hi p
  have h2 : -(M : Rat) * (q.den : Rat) ≤ q * (q.den : Rat) := Rat.mul_le_mul_of_nonneg_right lo p
  rw [hn] at h1 h2
  have e1 : q.num ≤ ((M * q.den : Nat) : Int) := by
    rw [← Rat.intCast_le_intCast, Rat.intCast_natCast, Rat.natCast_mul]
    exact h1
  have e2 : -((M * q.den : Nat) : Int) ≤ q.num := by
    rw [← Rat.intCast_le_intCast, Rat.intCast_neg, Rat.intCast_natCast, Rat.natCast_mul, ← Rat.neg_mul]
    exact h2
  have e3 : M * q.den < 2 ^ (1990 + 1990) := mul_pow_lt hM (Nat.lt_of_le_of_lt hden hD)
  have e4 : 2 ^ (1990 + 1990) ≤ 2 ^ 4000 := Nat.pow_le_pow_right (by decide) (by decide)
  omega
end
end DL
namespace DL
open PySem PySem.Spec PyProof.Rows L2
abbrev frsQ (qs : List Rat) : PyData := .list (qs.map frQ)
def sumQ : List Rat → Rat
  | [] => 0
  | q :: qs => q + sumQ qs
theorem sumQ_app : ∀ (xs ys : List Rat), sumQ (xs ++ ys) = sumQ xs + sumQ ys
  | [], ys => by rw [List.nil_append, sumQ, Rat.zero_add]
  | x :: xs, ys => by rw [List.cons_append, sumQ, sumQ, sumQ_app xs ys, Rat.add_assoc]
theorem sumQ_take {qs : List Rat} {k : Nat} {x : Rat} (h : qs[k]? = some x) : sumQ (qs.take (k + 1)) = sumQ (qs.take k) + x := by
  rw [List.take_add_one, h, sumQ_app]
  show _ + (x + 0) = _
  rw [Rat.add_zero]
def leastQ (q : Rat) (qs : List Rat) : Rat := qs.foldl (fun f x => if x < f then x else f) q
theorem leastQ_take {q : Rat} {qs : List Rat} {k : Nat} {x : Rat} (h : qs[k]? = some x) : leastQ q (qs.take (k + 1)) = if x < leastQ q (qs.take k) then x else leastQ q (qs.take k) := by
  unfold leastQ
  rw [List.take_add_one, h, List.foldl_append]
  rfl
theorem leastQ_mem : ∀ (qs : List Rat) (q : Rat), leastQ q qs ∈ q :: qs
  | [], q => by simp [leastQ]
  | x :: r, q => by
    have h := leastQ_mem r (if x < q then x else q)
    have e : leastQ q (x :: r) = leastQ (if x < q then x else q) r := rfl
    rw [e]
    rcases List.mem_cons.mp h with h | h
    · rw [h]
      split <;> simp
    · exact List.mem_cons_of_mem _ (List.mem_cons_of_mem _ h)
theorem leastQ_sub (q : Rat) (qs : List Rat) (k : Nat) : leastQ q (qs.take k) ∈ q :: qs := by
  rcases List.mem_cons.mp (leastQ_mem (qs.take k) q) with h | h
  · rw [h]
    exact List.mem_cons_self ..
  · exact List.mem_cons_of_mem _ (List.mem_of_mem_take h)
theorem leastQ_le : ∀ (qs : List Rat) (q : Rat), ∀ x ∈ q :: qs, leastQ q qs ≤ x
  | [], q, x, h => by
    rcases List.mem_cons.mp h with h | h
    · rw [h]
      exact Rat.le_refl
    · cases h
  | y :: r, q, x, h => by
    have e : leastQ q (y :: r) = leastQ (if y < q then y else q) r := rfl
    rw [e]
    have ih := leastQ_le r (if y < q then y else q)
    have h0 := ih _ (List.mem_cons_self ..)
    rcases List.mem_cons.mp h with h | h
    · rw [h]
      split at h0 <;> grind
    · rcases List.mem_cons.mp h with h | h
      · rw [h]
        split at h0 <;> grind
      · exact ih x (List.mem_cons_of_mem _ h)
theorem sm_fdiv {i j : Int} (h : Sm j) (j0 : j ≠ 0) : 0 - j ≠ 0 ∧ Builtin.divisionGoesByPylong i (0 - j) = false :=
  ⟨by omega, PyProof.noPylong_of_log2 (by rw [show (0 - j).natAbs = j.natAbs by omega]; exact h)⟩
end DL
namespace DL
open PySem PySem.Spec PyProof.Rows L2
/-! ### statements that keep some slots as they are -/
def toEk (K : PySem.W.Frag) (B : Hp) (W : Addr → Prop) (D : DEnds) (js : List Nat) (σ0 : L2.St) : Ends where
  nx := fun σ H => (∀ j ∈ js, σ[j]? = σ0[j]?) ∧ ∃ ρ, StD K B W ρ σ H ∧ D.nx ρ
  rt := fun v H => Same B H ∧ ∃ o, RetR K B W H v o ∧ D.rt o
  bk := fun σ H => (∀ j ∈ js, σ[j]? = σ0[j]?) ∧ ∃ ρ, StD K B W ρ σ H ∧ D.bk ρ
  ct := fun σ H => (∀ j ∈ js, σ[j]? = σ0[j]?) ∧ ∃ ρ, StD K B W ρ σ H ∧ D.ct ρ
def SDk (X : Cx) (sts : List Stmt) (ρ : DEnv) (D : DEnds) (js : List Nat) : Prop := ∀ (B : Hp) (W : Addr → Prop) (σ : L2.St) (H : Hp), MutU W B → StD X.K B W ρ σ H → WB X sts (toEk X.K B W D js σ) σ H
def S1k (X : Cx) (st : Stmt) (ρ : DEnv) (D : DEnds) (js : List Nat) : Prop := ∀ (B : Hp) (W : Addr → Prop) (σ : L2.St) (H : Hp), MutU W B → StD X.K B W ρ σ H → WS X st (toEk X.K B W D js σ) σ H
section
variable {X : Cx} {ρ : DEnv} {D D' : DEnds} {st : Stmt} {sts rest body : List Stmt} {a b c e o i iter tg : Expr} {es : List Expr} {pos pos' apos cpos p p2 : Pos} {x : Str} {ks js : List Nat}
theorem sdk_nil (q : D.nx ρ) : SDk X [] ρ D js := fun B W σ H hW s => wb_of pss_nil ⟨fun _ _ => rfl, ρ, s, q⟩
theorem sdk_cons (h : S1k X st ρ { D with nx := fun ρ' => SDk X rest ρ' D js } js) : SDk X (st :: rest) ρ D js := fun B W σ H hW s => by
  refine wb_of (pss_cons ps_w pb_w) ?_
  refine ws_mono (h B W σ H hW s) (fun σ' H' ⟨k, ρ', s', q⟩ => ?_) (fun _ _ z => z) (fun _ _ z => z) (fun _ _ z => z)
  exact wb_mono (q B W σ' H' hW s') (fun _ _ ⟨k2, z⟩ => ⟨fun j m => (k2 j m).trans (k j m), z⟩) (fun _ _ z => z) (fun _ _ ⟨k2, z⟩ => ⟨fun j m => (k2 j m).trans (k j m), z⟩) (fun _ _ ⟨k2, z⟩ => ⟨fun j m => (k2 j m).trans (k j m), z⟩)
theorem sk_if {a b : List Stmt} (h : RT X c ρ fun r => (r = true → SDk X a ρ D js) ∧ (r = false → SDk X b ρ D js)) : S1k X (.If c a b pos) ρ D js := fun B W σ H hW ⟨F, s⟩ => by
  refine ws_of (ps_if pt_w pb_w pb_w) (wt_mono (h _ σ H (s.mut hW) s.env) fun r H' ⟨e', q1, q2⟩ => ?_)
  cases r with
  | true => exact iteT (q1 rfl B W σ H' hW ⟨F, s.mono e'⟩)
  | false => exact iteF (q2 rfl B W σ H' hW ⟨F, s.mono e'⟩)
theorem sdk_norm {ρ' : DEnv} (h : ρ = ρ') (k : SDk X sts ρ' D js) : SDk X sts ρ D js := by rw [h]; exact k
theorem sk_setItem (h : RM X e ρ ks fun d => RD X o (unVs ρ ks) fun oo => ∃ j p ds, oo = .al j p ∧ dat (unVs ρ ks) oo = some (.list ds) ∧ RV X i (unVs ρ ks) fun di => ∃ k m, di = .int k ∧ ixN ds.length k = some m ∧ D.nx (modE (unVs ρ ks) j p (.list (ds.set m d))))
    (hnd : ks.Nodup := by decide) (hs : swapsWithSole [.Subscript o i p] e pos.line X.env = pure false := by rfl) (hw : swappedStores [.Subscript o i p] e X.env = pure none := by rfl) (h1 : (assignEach [.Subscript o i p] X.env).map (·.2) = [assign (.Subscript o i p) X.env] := by rfl)
    (ha : ∀ v, assign (.Subscript o i p) X.env v = (do
      let ov ← holding [v] (eval o X.env)
      let iv ← holding [v, ov] (eval i X.env)
      standAt p
      holding [v, ov, iv] (setItem ov iv v)
      release [v, ov, iv] []) := by intro _; rfl) : S1k X (.Assign [.Subscript o i p] e pos) ρ D js := fun B W σ H hW ⟨F, s⟩ => by
  refine ws_of (ps_asg pe_w (pg_sub pe_w pe_w set_list ha) hs hw h1) ?_
  refine we_mono (h B W σ H F hW s) fun v H1 ⟨e1, dd, S, oS, nS, fS, h2⟩ => ?_
  have s0 : StF X.K B (fun a => W a ∨ a ∈ ([] : List Addr)) ρ σ H F := by
    have : (fun a => W a ∨ a ∈ ([] : List Addr)) = W := by funext x; simp
    rw [this]
    exact s
  obtain ⟨F', M', s3, hM', _, hk', hF'⟩ := st_uns ks s0 (fun x hx => by cases hx) hnd
  have sm : MutU (UF (fun a => W a ∨ a ∈ M') F') H := by
    intro a ha
    rcases ha with (ha | ha) | ⟨k, ha⟩
    · exact hW.mono s.same a ha
    · obtain ⟨_, _, xs, hx, mx⟩ := hM' a ha
      rw [hx]; exact mx
    · obtain ⟨xs, hx, mx⟩ := s3.lstAt ha
      rw [hx]; exact mx
  have s4 := s3.mono e1
  refine we_mono (h2 _ σ H1 (sm.mono e1) s4.env) fun v2 H2 ⟨e2, oo, r, j, p, ds, eo, hd, h3⟩ => ?_
  subst eo
  obtain ⟨a, w, d0, ev, hj, hσ, hat⟩ := st_place s4 e2 r hd
  subst ev
  refine we_mono (h3 _ σ H2 ((sm.mono e1).mono e2) (s4.mono e2).env) fun v3 H3 ⟨e3, di, pdi, k, m, ed, hm, q⟩ => ?_
  subst ed
  cases pdi
  obtain ⟨vs, Sa, ha, hO, nSa, hSF, put⟩ := st_modM (d := d0) s3 hM' (e1.trans (e2.trans e3)) hj hσ (at_same e3 hat)
  have hl := owns_len hO
  refine ⟨a, vs, k, m, rfl, rfl, ha, by rw [hl]; exact hm, fun _ _ => rfl, _, ?_, q⟩
  have hmlt : m < ds.length := (ixN_seq hm).2.1
  obtain ⟨S0, S', g1, g2, g3⟩ := owns_put m hO (own_same (e2.trans e3) oS) hmlt
  refine put _ _ S' g1 (g3.nodup_iff.mpr (List.nodup_append.mpr ⟨nSa.sublist g2, nS, fun x hx y hy z => ?_⟩)) fun x hx => ?_
  · subst z
    have hxF := hSF x (g2.subset hx)
    rcases fS x hy with g | ⟨k, hk, g⟩
    · obtain ⟨xs, hxs, _⟩ := s3.lstAt hxF
      rw [g] at hxs
      cases hxs
    · exact (hM' x (hk' k hk x g)).2.1 j hxF
  · rcases List.mem_append.mp (g3.mem_iff.mp hx) with hx | hx
    · exact .inl (g2.subset hx)
    · rcases fS x hx with g | ⟨k, hk, g⟩
      · exact .inr (.inl g)
      · exact .inr (.inr (hk' k hk x g))
theorem sk_augItem {op : Operator} {f : Int → Int → Int} (hop : PIp X op (ipI f)) (h : RD X o ρ fun oo => ∃ j p ds, oo = .al j p ∧ dat ρ oo = some (.list ds) ∧ RV X i ρ fun di => ∃ k m n, di = .int k ∧ ixN ds.length k = some m ∧ ds[m]? = some (.int n) ∧ RV X e ρ fun d => ∃ z, d = .int z ∧ D.nx (modE ρ j p (.list (ds.set m (.int (f n z))))))
    (ha : ∀ ov iv new, augStore i ov iv new = (do holding [new, ov, iv] (setItem ov iv new); release [new, ov, iv] []; pure .next) := by intros; rfl) : S1k X (.AugAssign (.Subscript o i p) op e pos) ρ D js := fun B W σ H hW ⟨F, s⟩ => by
  refine ws_of (ps_augS pe_w pe_w get_list pe_w hop set_list ha) ?_
  refine we_mono (h _ σ H (s.mut hW) s.env) fun v H1 ⟨e1, oo, r, j, p, ds, eo, hd, h2⟩ => ?_
  subst eo
  obtain ⟨a, w, d0, ev, hj, hσ, hat⟩ := st_place s e1 r hd
  subst ev
  refine we_mono (h2 _ σ H1 ((s.mono e1).mut hW) (s.mono e1).env) fun u H2 ⟨e2, di, pdi, k, m, n, ed, hm, hn, h3⟩ => ?_
  subst ed
  cases pdi
  obtain ⟨vs0, S0, ha0, hO0, _⟩ := st_mod0 s (e1.trans e2) hj hσ (at_same e2 hat)
  obtain ⟨y, hy, py⟩ := dps_get (owns_dp _ _ _ hO0) hn
  cases py
  refine ⟨a, vs0, k, _, rfl, rfl, .inl (.inl ha0), ix_atI (by rw [owns_len hO0]; exact hm) hy, ?_⟩
  refine we_mono (h3 _ σ H2 ((s.mono (e1.trans e2)).mut hW) (s.mono (e1.trans e2)).env) fun u2 H3 ⟨e3, d, pd, z, ed, q⟩ => ?_
  subst ed
  cases pd
  obtain ⟨vs, Sa, ha, hO, nSa, put⟩ := st_mod0 s (e1.trans (e2.trans e3)) hj hσ (at_same (e2.trans e3) hat)
  have hl := owns_len hO
  refine ⟨n, z, rfl, rfl, a, vs, k, m, rfl, rfl, ha, by rw [hl]; exact hm, fun _ _ => rfl, _, ?_, q⟩
  obtain ⟨S0, S', g1, g2, g3⟩ := owns_put m hO (.flt (.int (f n z)) rfl) (ixN_seq hm).2.1
  rw [List.append_nil] at g3
  exact put _ _ S' g1 (g3.nodup_iff.mpr (nSa.sublist g2)) fun x hx => .inl (g2.subset (g3.mem_iff.mp hx))
theorem sk_append (h : RD X o ρ fun oo => ∃ j p ds, oo = .al j p ∧ dat ρ oo = some (.list ds) ∧ ds.length < sizeLine ∧ j ∉ ks ∧ RM X e ρ ks fun d => D.nx (modE (unVs ρ ks) j p (.list (ds ++ [d]))))
    (hnd : ks.Nodup := by decide) (hbase : attributeBase o "append" X.env (eval o X.env) = eval o X.env := by rfl)
    (hfew : ((backTo cpos (starEach (e :: []) X.env)).all (fun x => !x.1) && (backToKw cpos (keywordEach [] X.env)).all (fun x => x.1.isSome) && decide ((e :: []).length + ([] : List Keyword).length + (if ([] : List Keyword).isEmpty then 0 else 1) < 30)) = true := by rfl)
    (hline : (apos.endLine == cpos.line) = true := by rfl) (hst : starEach (e :: []) X.env = (false, eval e X.env) :: starEach [] X.env := by rfl) (hplain : (backTo cpos (starEach [] X.env)).any (·.1) = false := by rfl)
    (hs : swapsWith (.Call (.Attribute o "append" apos) [e] [] cpos) none pos.line X.env = pure false := by rfl) : S1k X (.Expr (.Call (.Attribute o "append" apos) [e] [] cpos) pos) ρ D js := fun B W σ H hW ⟨F, s⟩ => by
  refine ws_of (ps_expr (pe_bm PySem.F.plainAttrs_list PySem.F.slot_list_append PySem.F.type_list_append mt_append pe_w (pa_cons pe_w pa_nil hst) hbase hfew hline hst hplain) hs) ?_
  refine we_mono (h _ σ H (s.mut hW) s.env) fun v H1 ⟨e1, oo, r, j, p, ds, eo, hd, hz, hjk, h2⟩ => ?_
  subst eo
  obtain ⟨a, w, d, ev, hj, hσ, hat⟩ := st_place s e1 r hd
  subst ev
  have s1 := s.mono e1
  obtain ⟨vs0, _, _, ha0, _, _, _⟩ := own_zip hat rfl rfl (by
    obtain ⟨w', q1, q2⟩ := s1.ent j _ hj
    rw [hσ] at q1
    cases q1
    exact q2)
  refine ⟨.inl ⟨rfl, _, .inl (.inl ha0)⟩, we_mono (h2 B W σ H1 F hW s1) fun u H2 ⟨e2, dd, S, oS, nS, fS, q⟩ => ?_⟩
  have s0 : StF X.K B (fun a => W a ∨ a ∈ ([] : List Addr)) ρ σ H1 F := by
    have : (fun a => W a ∨ a ∈ ([] : List Addr)) = W := by funext x; simp
    rw [this]
    exact s1
  obtain ⟨F', M', s3, hM', _, hk', hF'⟩ := st_uns ks s0 (fun x hx => by cases hx) hnd
  have hj' := unVs_get ks hjk hj
  obtain ⟨vs, Sa, ha, hO, nSa, hSF, put⟩ := st_modM (d := d) s3 hM' e2 hj' hσ (at_same e2 hat)
  have hlen := owns_len hO
  refine ⟨a, vs, u, rfl, rfl, ha, by omega, fun _ _ => rfl, _, ?_, q⟩
  refine put (vs ++ [u]) (ds ++ [dd]) (Sa ++ S) (owns_snoc hO oS) (List.nodup_append.mpr ⟨nSa, nS, fun x hx y hy z => ?_⟩) (fun x hx => ?_)
  · subst z
    have hx' : x ∈ F j := by rw [← hF' j hjk]; exact hSF x hx
    rcases fS x hy with g | ⟨k, hk, g⟩
    · obtain ⟨xs, hxs, _⟩ := s1.lstAt hx'
      rw [g] at hxs
      cases hxs
    · have := s.dj j k x hx' g
      subst this
      exact hjk hk
  · rcases List.mem_append.mp hx with hx | hx
    · exact .inl hx
    · rcases fS x hx with g | ⟨k, hk, g⟩
      · exact .inr (.inl g)
      · exact .inr (.inr (hk' k hk x g))

/-! ### for a, b in zip(xs, ys): xs a list that a slot owns, its items changed in place -/
/-- the second list: frozen, or owned by a slot and holding no list -/
inductive ZSrc (X : Cx) (ρ : DEnv) (b : Expr) (es : List PyData) : Option Nat → Prop
  | fz (h : RF X b ρ fun d => d = .list es) : ZSrc X ρ b es none
  | own (j : Nat) {y : Str} {p : Pos} (hb : b = .Name y p) (hj : ρ[j]? = some (.ow (.list es))) (hl : lfs es = true) (hN : X.N[j]? = some y := by rfl) (hv : Vis X.env.scope y := by first | exact Or.inl rfl | exact Or.inr (Or.inl rfl) | exact Or.inr (Or.inr rfl)) (hd : (y == ("__debug__" : Str)) = false := by decide) (hcd : (y == ("__classdict__" : Str)) = false := by decide) : ZSrc X ρ b es (some j)
theorem ow_items {K : PySem.W.Frag} {B : Hp} {W : Addr → Prop} {ρ : DEnv} {σ : L2.St} {H : Hp} {F : Nat → List Addr} {j : Nat} {ds : List PyData} (s : StF K B W ρ σ H F) (h : ρ[j]? = some (.ow (.list ds))) : ∃ a vs T, σ[j]? = some (some (.ref a)) ∧ H a = some (.lst vs) ∧ OwnAll K H vs ds T := by
  obtain ⟨v, e1, e2⟩ := s.ent j _ h
  obtain ⟨a, xs, T, rfl, h1, h2, _⟩ := own_list e2
  exact ⟨a, xs, T, e1, h1, h2⟩
theorem rp_list {K : PySem.W.Frag} {H : Hp} {v : V} {es : List PyData} (p : Rp K H v (.list es)) : ∃ b xs, v = .ref b ∧ SqL K H b xs ∧ RpAll K H xs es := by
  cases p with
  | lst g1 g2 => exact ⟨_, _, rfl, g1, g2⟩
theorem s_forZO {n : Nat} {es : List PyData} {oj : Option Nat} {y : Str} {pb pt pz ptt : Pos} {kk : Nat} {e1 e2 : Expr} (j i1 i2 : Nat) (is : List Nat) (src : ZSrc X ρ b es oj)
    (up : Nat → List (Nat × DE)) (dk : Nat → List PyData) (h0 : Keep is (puts ρ (up 0)) ρ)
    (hj0 : ∀ k f, (sets (puts ρ (up k)) is f)[j]? = some (.ow (.list (dk k)))) (hn : ∀ k, (dk k).length = n)
    (ho : ∀ k f, ∀ j2 ∈ oj.toList, (sets (puts ρ (up k)) is f)[j2]? = some (.ow (.list es)))
    (step : ∀ (k : Nat) (e d1 : PyData) (f : Nat → DE), es[k]? = some e → (dk k)[k]? = some d1 → lf d1 = false ∧ i1 < (sets (puts ρ (up k)) is f).length ∧ i2 < (sets (puts ρ (up k)) is f).length ∧
      SDk X body (setV (setV (sets (puts ρ (up k)) is f) i1 (.al j [k])) i2 (.fz e)) { nx := Keep is (puts ρ (up (k + 1))), rt := D.rt, bk := fun _ => False, ct := Keep is (puts ρ (up (k + 1))) } (j :: oj.toList))
    (fin : ∀ f, D.nx (sets (puts ρ (up (min n es.length))) is f))
    (hij : i1 ≠ j ∧ i2 ≠ j ∧ i1 ≠ i2 ∧ (∀ j2 ∈ oj.toList, i1 ≠ j2 ∧ i2 ≠ j2)) (hm : X.mg "zip" = none)
    (hp : PassesOwn (model X.prog X.w) X.A X.env X.xe) (hc : X.calm = true) (hg : PG X (.Tuple [e1, e2] kk pt) (tgR X.K (.tup [i1, i2])))
    (hgl : Gl X "zip" := by rfl) (hN : X.N[j]? = some y := by rfl) (hv : Vis X.env.scope y := by first | exact Or.inl rfl | exact Or.inr (Or.inl rfl) | exact Or.inr (Or.inr rfl)) (hd : (y == ("__debug__" : Str)) = false := by decide) (hcd : (y == ("__classdict__" : Str)) = false := by decide)
    (hs1 : starEach [.Name y pb, b] X.env = (false, eval (.Name y pb) X.env) :: starEach [b] X.env := by rfl) (hs2 : starEach [b] X.env = (false, eval b X.env) :: starEach [] X.env := by rfl) (hpl : (backTo pz (starEach [b] X.env)).any (·.1) = false := by rfl)
    (hs : ∀ x, foldedSetIterable (.Call (.Name "zip" ptt) [.Name y pb, b] [] pz) X.env x = pure x := by intro _; rfl) :
    S1 X (.For (.Tuple [e1, e2] kk pt) (.Call (.Name "zip" ptt) [.Name y pb, b] [] pz) body [] pos) ρ D := fun B W σ H hW ⟨F, s⟩ => by
  have hjr : ρ[j]? = some (.ow (.list (dk 0))) := by
    obtain ⟨f, hf⟩ := h0
    have := hj0 0 f
    rw [← hf] at this
    exact this
  obtain ⟨a, vs0, T0, hσ, ha, hO⟩ := ow_items s hjr
  have HB : WE X b σ H fun v H1 => Same H H1 ∧ ∃ b0 ys, v = .ref b0 ∧ SqL X.K H1 b0 ys ∧ ∀ (ρ' : DEnv) (σ' : L2.St) (H' : Hp) (F' : Nat → List Addr), StF X.K (baseOf H1 F) W ρ' σ' H' F' → (∀ j2 ∈ oj.toList, ρ'[j2]? = some (.ow (.list es)) ∧ σ'[j2]? = σ[j2]?) → ∃ ys, SqL X.K H' b0 ys ∧ RpAll X.K (Hide H' (UF W F')) ys es := by
    cases src with
    | fz h =>
      refine we_mono (h _ σ H (s.mut hW) s.env) fun v H1 ⟨e1, d, p, hd⟩ => ?_
      subst hd
      obtain ⟨b0, xs, rfl, g1, g2⟩ := rp_list p
      refine ⟨e1, b0, xs, rfl, Same.seq hide_sub g1, fun ρ' σ' H' F' s' _ => ⟨xs, ?_, ?_⟩⟩
      · exact Same.seq hide_sub (Same.seq (base_hide s') (by rw [hide_base]; exact g1))
      · exact dps_sub (base_hide s') _ _ (by rw [hide_base]; exact g2)
    | own j2 hb hj2 hl hN2 hv2 hd2 hcd2 =>
      subst hb
      obtain ⟨b0, vs2, T2, hσ2, hb0, hO2⟩ := ow_items s hj2
      refine we_of (pe_var hN2 hv2 hd2 hcd2) ⟨.ref b0, hσ2, Same.refl _, b0, vs2, rfl, .inl (.inl hb0), fun ρ' σ' H' F' s' hk => ?_⟩
      obtain ⟨q1, q2⟩ := hk j2 (by simp)
      obtain ⟨b1, vs3, T3, hσ3, hb3, hO3⟩ := ow_items s' q1
      rw [q2, hσ2] at hσ3
      cases hσ3
      refine ⟨vs3, .inl (.inl hb3), ?_⟩
      exact dps_lf (hide_tups (s'.mut (hW.mono s.base_sub))) _ _ (owns_dp _ _ _ hO3) hl
  refine ws_of (ps_for hp hc (pi_zip hgl hm (pa_cons (pe_var hN hv hd hcd) (pa_cons pe_w pa_nil hs2) hs1) hs1 hpl) hg pb_w hs) ?_
  refine ⟨_, hσ, we_mono HB fun v H1 ⟨e1, b0, ys0, ev, hb0, hst⟩ => ?_⟩
  subst ev
  refine ⟨a, b0, vs0, ys0, rfl, .inl (.inl (e1 _ _ ha)), hb0, ?_⟩
  have s1 := (s.mono e1).rebase
  have hb := (s.mono e1).base_sub
  have hW1 : MutU W (baseOf H1 F) := hW.mono hb
  have items : ∀ {k : Nat} {ρ2 : DEnv} {σ2 : L2.St} {H2 : Hp} {F2 : Nat → List Addr}, StF X.K (baseOf H1 F) W ρ2 σ2 H2 F2 → Keep is (puts ρ (up k)) ρ2 → (∀ i ∈ (j :: oj.toList), σ2[i]? = σ[i]?) →
      ∃ vs T ys, H2 a = some (.lst vs) ∧ OwnAll X.K H2 vs (dk k) T ∧ SqL X.K H2 b0 ys ∧ RpAll X.K (Hide H2 (UF W F2)) ys es := fun {k ρ2 σ2 H2 F2} s2 hk hs2 => by
    obtain ⟨f, hf⟩ := hk
    have q1 := hj0 k f
    rw [← hf] at q1
    obtain ⟨a2, vs2, T2, hσ2, ha2, hO2⟩ := ow_items s2 q1
    rw [hs2 j (by simp), hσ] at hσ2
    cases hσ2
    obtain ⟨ys, y1, y2⟩ := hst ρ2 σ2 H2 F2 s2 fun j2 hj2 => ⟨by rw [hf]; exact ho k f j2 hj2, hs2 j2 (List.mem_cons_of_mem _ hj2)⟩
    exact ⟨vs2, T2, ys, ha2, hO2, y1, y2⟩
  refine ⟨fun i m σ' H' => m = min n es.length - i ∧ i ≤ min n es.length ∧ ∃ ρ', StD X.K (baseOf H1 F) W ρ' σ' H' ∧ Keep is (puts ρ (up i)) ρ' ∧ ∀ i ∈ (j :: oj.toList), σ'[i]? = σ[i]?, ⟨min n es.length, by simp, Nat.zero_le _, ρ, ⟨F, s1⟩, h0, fun _ _ => rfl⟩, ?_⟩
  rintro i m σ2 H2 ⟨rfl, hi, ρ2, ⟨F2, s2⟩, hk, hs2⟩
  obtain ⟨vs, T, ys, ha2, hO2, hy2, hp2⟩ := items s2 hk hs2
  have hl1 : vs.length = n := by rw [owns_len hO2, hn]
  have hl2 := dps_len hp2
  by_cases hlt : i < min n es.length
  · have hi1 : i < vs.length := by omega
    have hi2 : i < ys.length := by omega
    refine .inr ⟨⟨vs, ys, vs[i], ys[i], .inl (.inl ha2), hy2, List.getElem?_eq_getElem hi1, List.getElem?_eq_getElem hi2⟩, fun σ' H' => ∃ ρ', StD X.K (baseOf H1 F) W ρ' σ' H' ∧ Keep is (puts ρ (up (i + 1))) ρ' ∧ ∀ i ∈ (j :: oj.toList), σ'[i]? = σ[i]?, fun σ' H' ⟨ρ', a, b, c⟩ => ⟨min n es.length - (i + 1), by omega, rfl, hlt, ρ', a, b, c⟩, fun x H3 hy => ?_⟩
    obtain ⟨T3, x1, y1, rfl, hT3, rfl, hx1, hy1⟩ := hy
    have e3 := hx1 vs (.inl (.inl ha2))
    have e4 := hy1 ys hy2
    obtain ⟨d1, hd1, _⟩ := dps_getV (owns_dp _ _ _ hO2) e3
    obtain ⟨d2, hd2, hpd2⟩ := dps_getV hp2 e4
    obtain ⟨f, hf⟩ := hk
    obtain ⟨hlf, hli1, hli2, body_ok⟩ := step i d2 d1 f hd2 hd1
    rw [← hf] at hli1 hli2 body_ok
    have hsame : Same H2 (upd H2 T3 (.tup [x1, y1])) := same_new hT3
    refine ⟨T3, [x1, y1], rfl, .inl (.inl upd_same), rfl, ?_⟩
    refine tgs_run [i1, i2] [x1, y1] σ2 _ _ rfl ?_
    have s3 := s2.mono hsame
    have q1 := hj0 i f
    rw [← hf] at q1
    have hσj : σ2[j]? = some (some (.ref a)) := (hs2 j (by simp)).trans hσ
    have at1 : AtV (upd H2 T3 (.tup [x1, y1])) (.ref a) (.list (dk i)) [i] x1 d1 := .lst (hsame _ _ ha2) e3 hd1 .nil
    have s4 : StF X.K (baseOf H1 F) W (setV ρ2 i1 (.al j [i])) (σ2.set i1 (some x1)) _ (setF F2 i1 []) := st_set (S := []) s3 (Same.refl _) hli1 .nil (fun a z => by cases z) ⟨rfl, x1, .ref a, .list (dk i), d1, rfl, setV_ow hij.1 q1, by rw [List.getElem?_set_ne hij.1]; exact hσj, at1⟩
    have hp4 : Rp X.K (Hide (upd H2 T3 (.tup [x1, y1])) (UF W (setF F2 i1 []))) y1 d2 := dp_sub (hide_same hsame fun b o _ hu => by
      rcases uf_set hu with z | z
      · exact z
      · cases z) _ _ hpd2
    have s5 := st_setFz' (i := i2) s4 (Same.refl _) (by rw [setV_len]; exact hli2) hp4
    have keepσ : ∀ i ∈ (j :: oj.toList), (setS σ2 [i1, i2] [x1, y1])[i]? = σ[i]? := fun q hq => by
      have h1 : i1 ≠ q ∧ i2 ≠ q := by
        rcases List.mem_cons.mp hq with z | z
        · rw [z]
          exact ⟨hij.1, hij.2.1⟩
        · exact hij.2.2.2 q z
      show ((σ2.set i1 (some x1)).set i2 (some y1))[q]? = σ[q]?
      rw [List.getElem?_set_ne h1.2, List.getElem?_set_ne h1.1]
      exact hs2 q hq
    exact wb_mono (body_ok (baseOf H1 F) W _ _ hW1 ⟨_, s5⟩) (fun σ' H' ⟨k2, ρ', st, kp⟩ => ⟨ρ', st, kp, fun q hq => (k2 q hq).trans (keepσ q hq)⟩) (fun v H' ⟨sm, o, r, z⟩ => toE_weak hb ⟨sm, o, r, z⟩) (fun σ' H' ⟨_, _, _, z⟩ => z.elim) (fun σ' H' ⟨k2, ρ', st, kp⟩ => ⟨ρ', st, kp, fun q hq => (k2 q hq).trans (keepσ q hq)⟩)
  · have e : i = min n es.length := by omega
    subst e
    refine .inl ⟨⟨vs, ys, .inl (.inl ha2), hy2, by omega⟩, ?_⟩
    obtain ⟨f, hf⟩ := hk
    refine ⟨ρ2, StD.weak ⟨F2, s2⟩ hb, ?_⟩
    rw [hf]
    exact fin f
end
end DL
namespace DL
open PySem PySem.Spec PyProof.Rows L2
/-! ### a tuple of the module -/
section
variable {X : Cx} {ρ : DEnv} {pos : Pos} {x : Str}
/-- the module's name x holds a tuple of these whole numbers -/
def GlT (K : PySem.W.Frag) (mg : Str → Option Value) (x : Str) (ns : List Int) : Prop := ∃ a, mg x = some (.ref a) ∧ ∀ H, SqT K H a (ns.map V.int)
theorem rd_globT {ns : List Int} {Q : DE → Prop} (h : GlT X.K X.mg x ns) (q : Q (.fz (.tuple (ns.map .int)))) (hg : Gl X x := by rfl) (hd : (x == ("__debug__" : Str)) = false := by decide) : RD X (.Name x pos) ρ Q := by
  obtain ⟨a, hm, hs⟩ := h
  exact rd_glob (v := .ref a) hm rfl (fun H => .tup (hs H) (dps_ints ns)) q hg hd
theorem rv_globT {ns : List Int} {Q : PyData → Prop} (h : GlT X.K X.mg x ns) (q : Q (.tuple (ns.map .int))) (hg : Gl X x := by rfl) (hd : (x == ("__debug__" : Str)) = false := by decide) : RV X (.Name x pos) ρ Q :=
  rv_of (rd_globT h ⟨_, rfl, q⟩ hg hd)
theorem glT_mk {K : PySem.W.Frag} {mg : Str → Option Value} {ns : List Int} {a : Addr} {o : Obj} {its : Array Value} {n : Nat} (hm : mg x = some (.ref a)) (l : K.lookup a = some o) (hc : o.cls = .type "tuple") (hd : o.data = .seq its n) (hz : its.size ≤ sizeLine) (r : Vals (ns.map V.int) its.toList) : GlT K mg x ns :=
  ⟨a, hm, fun H => .inr ⟨o, its, n, l, hc, hd, hz, r⟩⟩
end
/-! ### list * int -/
theorem lfs_rep : ∀ (n : Nat) {xs : List PyData}, lfs xs = true → lfs ((List.replicate n xs).flatten) = true
  | 0, _, _ => rfl
  | n + 1, xs, h => by
    rw [List.replicate_succ, List.flatten_cons]
    exact lfs_app h (lfs_rep n h)
theorem rps_rep {K : PySem.W.Frag} {H : Hp} : ∀ (n : Nat) {vs : List V} {ds : List PyData}, RpAll K H vs ds → RpAll K H (List.replicate n vs).flatten (List.replicate n ds).flatten
  | 0, _, _, _ => .nil
  | n + 1, vs, ds, h => by
    rw [List.replicate_succ, List.flatten_cons, List.replicate_succ, List.flatten_cons]
    exact dps_app h (rps_rep n h)
theorem rd_rep {X : Cx} {ρ : DEnv} {a b : Expr} {pos : Pos} {Q : DE → Prop} (h : RD X a ρ fun o => ∃ ds : List PyData, (o = .ow (.list ds) ∨ ∃ j p, o = .al j p ∧ dat ρ o = some (.list ds)) ∧ RV X b ρ fun d2 => ∃ n : Nat, d2 = .int n ∧ lfs ds = true ∧ n < 2 ^ 62 ∧ ds.length * n ≤ sizeLine ∧ Q (.ow (.list (List.replicate n ds).flatten))) : RD X (.BinOp a .Mult b pos) ρ Q := fun U σ H m E => by
  intro pins s I
  refine wpAny_BinOp (thn (h U σ H m E pins s I) fun v s1 ⟨x, H1, I1, r1, e1, o, p1, ds, ho, h2⟩ => ?_)
  refine thn (h2 U σ H1 (m.mono e1) (envR_same E e1) pins s1 I1) fun u s2 ⟨y, H2, I2, r2, e2, d2, p2, n, hd2, hl, hn, hz, q⟩ => ?_
  subst hd2
  have own : ∃ S, OwnR X.K H1 x (.list ds) S := by
    rcases ho with rfl | ⟨j, p, rfl, hd⟩
    · obtain ⟨S, g, _⟩ := p1
      exact ⟨S, g⟩
    · obtain ⟨w, d, d', g1, g2, g3⟩ := p1
      obtain ⟨w', S, q1, q2, _⟩ := (envR_same E e1).get j _ g1
      rw [g2] at q1
      cases q1
      obtain ⟨S', g4, _⟩ := own_at g3 q2
      have hd' : (match ρ[j]? with
        | some (.ow d) => subAt d p
        | _ => none) = some (.list ds) := hd
      rw [g1] at hd'
      have hd2 : subAt d p = some (.list ds) := hd'
      rw [at_sub g3] at hd2
      cases hd2
      exact ⟨S', g4⟩
  obtain ⟨S, own⟩ := own
  obtain ⟨l, xs, T, rfl, hx, hO, _⟩ := own_list own
  have hO2 := dps_sub e2 _ _ (owns_dp _ _ _ hO)
  cases p2
  refine op_rep pins s2 σ H2 _ _ v u _ I2 r1 r2 ⟨_, _, xs, rfl, rfl, e2 _ _ hx, by omega, by omega, by rw [dps_len hO2]; simpa using hz, fun p hp => ⟨(e1.trans e2).trans (same_new hp), .ow (.list (List.replicate n ds).flatten), ?_, q⟩⟩
  obtain ⟨S, g1, g2, g3⟩ := ow_new hp (rps_rep n hO2) (lfs_rep n hl)
  refine ⟨S, ?_, g2, fun a m => (e1.trans e2).free (g3 a m)⟩
  simpa using g1
/-! ### the meal, reckoned -/
def leftAt (left : List Rat) (x : Int) : Rat := left.getD x.toNat 0
def eats1 (left : List Rat) : List Int → Int
  | [] => left.length
  | x :: r => if x = left.length ∨ leftAt left x ≠ 0 then x else eats1 left r
def eatenQ (fo : List (List Int)) (left : List Rat) : List Int := fo.map (eats1 left)
def cntQ (eaten : List Int) (k : Nat) : Nat := eaten.count ((k : Nat) : Int)
def lensTo (eaten : List Int) (left : List Rat) (m : Nat) : List Rat := (List.range m).filterMap fun k => if 0 < cntQ eaten k then some (left.getD k 0 / ((cntQ eaten k : Nat) : Rat)) else none
def slenQ (eaten : List Int) (left : List Rat) (time : Rat) : Rat := leastQ time (lensTo eaten left left.length)
def addRow (l : Rat) (row : List Rat) (x : Int) : List Rat := row.set x.toNat (row.getD x.toNat 0 + l)
def newLeft (eaten : List Int) (left : List Rat) (l : Rat) : List Rat := left.mapIdx fun k q => q - l * ((cntQ eaten k : Nat) : Rat)
def endedTo (eaten : List Int) (nl : List Rat) (m : Nat) : List Int := (rng m).filter fun x => decide (0 < eaten.count x) && !decide (0 < leftAt nl x)
structure MS where
  left : List Rat
  time : Rat
  steps : List (Rat × List Int × List Int)
  shares : List (List Rat)
def mnext (fo : List (List Int)) (s : MS) : MS :=
  { left := newLeft (eatenQ fo s.left) s.left (slenQ (eatenQ fo s.left) s.left s.time)
    time := s.time - slenQ (eatenQ fo s.left) s.left s.time
    steps := s.steps ++ [(slenQ (eatenQ fo s.left) s.left s.time, eatenQ fo s.left, endedTo (eatenQ fo s.left) (newLeft (eatenQ fo s.left) s.left (slenQ (eatenQ fo s.left) s.left s.time)) s.left.length)]
    shares := List.zipWith (addRow (slenQ (eatenQ fo s.left) s.left s.time)) s.shares (eatenQ fo s.left) }
def mstep (fo : List (List Int)) (s : MS) : MS := if s.time = 0 then s else mnext fo s
def fosQ (t : Table) : List (List Int) := t.2.map (fullO t.1.length)
def mst (t : Table) : Nat → MS
  | 0 => { left := t.1.map fun c => ((c : Int) : Rat), time := 1, steps := [], shares := t.2.map fun _ => List.replicate (t.1.length + 1) 0 }
  | i + 1 => mstep (fosQ t) (mst t i)
def mealQ (t : Table) : MS := mst t (t.1.length + 1)
structure MTab (t : Table) : Prop where
  n : t.1.length ≤ 6
  a : t.2.length ≤ 6
  c : ∀ c ∈ t.1, 0 ≤ c ∧ c ≤ 9
  nd : ∀ o ∈ t.2, o.Nodup
  os : ∀ o ∈ t.2, ∀ x ∈ o, 0 ≤ x ∧ x < (t.1.length : Int)
/-- all orders end in nothing, their numbers are in range -/
structure FoOk (n : Nat) (fo : List (List Int)) : Prop where
  len : fo.length ≤ 6
  rg : ∀ o ∈ fo, ∀ x ∈ o, 0 ≤ x ∧ x ≤ (n : Int)
  nn : ∀ o ∈ fo, (n : Int) ∈ o
theorem eats1_spec {left : List Rat} : ∀ {o : List Int}, (∀ x ∈ o, 0 ≤ x ∧ x ≤ (left.length : Int)) → 0 ≤ eats1 left o ∧ eats1 left o ≤ left.length ∧ (eats1 left o < left.length → leftAt left (eats1 left o) ≠ 0)
  | [], _ => by
    show 0 ≤ ((left.length : Nat) : Int) ∧ ((left.length : Nat) : Int) ≤ left.length ∧ (((left.length : Nat) : Int) < left.length → _)
    exact ⟨by omega, by omega, fun h => absurd h (by omega)⟩
  | x :: r, h => by
    have hx := h x (List.mem_cons_self ..)
    rw [eats1]
    split
    · rename_i hc
      refine ⟨hx.1, hx.2, fun h2 => ?_⟩
      rcases hc with hc | hc
      · omega
      · exact hc
    · exact eats1_spec fun y hy => h y (List.mem_cons_of_mem _ hy)
theorem cnt_le (eaten : List Int) (k : Nat) : cntQ eaten k ≤ eaten.length := List.count_le_length
theorem cnt_left {fo : List (List Int)} {left : List Rat} (h : ∀ o ∈ fo, ∀ x ∈ o, 0 ≤ x ∧ x ≤ (left.length : Int)) {k : Nat} (hk : k < left.length) (hc : 0 < cntQ (eatenQ fo left) k) : left.getD k 0 ≠ 0 := by
  have hm : ((k : Nat) : Int) ∈ eatenQ fo left := List.count_pos_iff.mp hc
  obtain ⟨o, ho, he⟩ := List.mem_map.mp hm
  have hs := (eats1_spec (h o ho)).2.2
  rw [he] at hs
  have := hs (by omega)
  simpa [leftAt] using this
theorem mem_lens {eaten : List Int} {left : List Rat} {m : Nat} {q : Rat} : q ∈ lensTo eaten left m ↔ ∃ k, k < m ∧ 0 < cntQ eaten k ∧ q = left.getD k 0 / ((cntQ eaten k : Nat) : Rat) := by
  unfold lensTo
  rw [List.mem_filterMap]
  constructor
  · rintro ⟨k, hk, h⟩
    split at h
    · rename_i hc
      exact ⟨k, List.mem_range.mp hk, hc, (Option.some.inj h).symm⟩
    · cases h
  · rintro ⟨k, hk, hc, rfl⟩
    exact ⟨k, List.mem_range.mpr hk, by rw [if_pos hc]⟩
theorem rat_natpos {n : Nat} (h : 0 < n) : (0 : Rat) < ((n : Nat) : Rat) := Rat.natCast_pos.mpr h
theorem div_pos_rat {a b : Rat} (ha : 0 < a) (hb : 0 < b) : 0 < a / b := by
  rw [Rat.div_def]
  exact Rat.mul_pos ha (Rat.inv_pos.mpr hb)
theorem div_mul_rat {a b : Rat} (hb : 0 < b) : a / b * b = a := Rat.div_mul_cancel (by intro z; rw [z] at hb; exact absurd hb Rat.lt_irrefl)
/-- what holds all along; i steps have been taken -/
structure MInv (t : Table) (i : Nat) (s : MS) : Prop where
  ll : s.left.length = t.1.length
  sl : s.shares.length = t.2.length
  rl : ∀ row ∈ s.shares, row.length = t.1.length + 1
  lD : ∀ q ∈ s.left, OnD (60 ^ i) q
  l0 : ∀ q ∈ s.left, 0 ≤ q ∧ q ≤ 9
  tD : OnD (60 ^ i) s.time
  t0 : 0 ≤ s.time ∧ s.time ≤ 1
  sD : ∀ row ∈ s.shares, ∀ q ∈ row, OnD (60 ^ i) q
  s0 : ∀ row ∈ s.shares, ∀ q ∈ row, 0 ≤ q ∧ q ≤ 1 - s.time
  st : s.steps.length ≤ i
def musL (left : List Rat) : Nat := (List.range left.length).countP fun k => decide (left.getD k 0 ≠ 0)
def mus (s : MS) : Nat := musL s.left + if s.time = 0 then 0 else 1
theorem countP_lt {α : Type} {p q : α → Bool} : ∀ {l : List α}, (∀ x ∈ l, p x = true → q x = true) → (∃ x ∈ l, q x = true ∧ p x = false) → l.countP p < l.countP q
  | [], _, ⟨x, h, _⟩ => by cases h
  | a :: l, h, ⟨x, hx, h1, h2⟩ => by
    rw [List.countP_cons, List.countP_cons]
    have hle : l.countP p ≤ l.countP q := List.countP_mono_left fun x hx => h x (List.mem_cons_of_mem _ hx)
    have ha := h a (List.mem_cons_self ..)
    rcases List.mem_cons.mp hx with e | hx
    · rw [← e, h1, h2]
      simp
      omega
    · have := countP_lt (fun x hx => h x (List.mem_cons_of_mem _ hx)) ⟨x, hx, h1, h2⟩
      cases hp : p a with
      | false => cases q a <;> simp <;> omega
      | true => rw [ha hp]; simp; omega
theorem getD_mem {l : List Rat} {k : Nat} (h : k < l.length) : l.getD k 0 ∈ l := by
  rw [List.getD_eq_getElem?_getD, List.getElem?_eq_getElem h]
  exact List.getElem_mem h
theorem newLeft_len (eaten : List Int) (left : List Rat) (l : Rat) : (newLeft eaten left l).length = left.length := List.length_mapIdx
theorem newLeft_get {eaten : List Int} {left : List Rat} {l : Rat} {k : Nat} (h : k < left.length) : (newLeft eaten left l).getD k 0 = left.getD k 0 - l * ((cntQ eaten k : Nat) : Rat) := by
  unfold newLeft
  rw [List.getD_eq_getElem?_getD, List.getElem?_mapIdx, List.getElem?_eq_getElem h, List.getD_eq_getElem?_getD, List.getElem?_eq_getElem h]
  rfl
theorem mem_newLeft {eaten : List Int} {left : List Rat} {l q : Rat} (h : q ∈ newLeft eaten left l) : ∃ k, k < left.length ∧ q = left.getD k 0 - l * ((cntQ eaten k : Nat) : Rat) := by
  obtain ⟨k, hk, e⟩ := List.mem_iff_getElem.mp h
  rw [newLeft_len] at hk
  refine ⟨k, hk, ?_⟩
  rw [← newLeft_get hk, List.getD_eq_getElem?_getD, List.getElem?_eq_getElem (by rw [newLeft_len]; exact hk), ← e]
  rfl
theorem dvd60 {c : Nat} (h : 0 < c) (h2 : c ≤ 6) : c ∣ 60 := by
  have : c = 1 ∨ c = 2 ∨ c = 3 ∨ c = 4 ∨ c = 5 ∨ c = 6 := by omega
  rcases this with e | e | e | e | e | e <;> (rw [e]; decide)
structure SLen (eaten : List Int) (left : List Rat) (time l : Rat) : Prop where
  pos : 0 < l
  le : l ≤ time
  all : ∀ k, k < left.length → 0 < cntQ eaten k → l * ((cntQ eaten k : Nat) : Rat) ≤ left.getD k 0
  end' : l = time ∨ ∃ k, k < left.length ∧ 0 < cntQ eaten k ∧ l * ((cntQ eaten k : Nat) : Rat) = left.getD k 0
theorem slen_spec {eaten : List Int} {left : List Rat} {time : Rat} (ht : 0 < time) (hl : ∀ k, k < left.length → 0 < cntQ eaten k → 0 < left.getD k 0) : SLen eaten left time (slenQ eaten left time) := by
  have hm := leastQ_mem (lensTo eaten left left.length) time
  have hle := leastQ_le (lensTo eaten left left.length) time
  have key : ∀ k, k < left.length → 0 < cntQ eaten k → 0 < left.getD k 0 / ((cntQ eaten k : Nat) : Rat) ∧ left.getD k 0 / ((cntQ eaten k : Nat) : Rat) * ((cntQ eaten k : Nat) : Rat) = left.getD k 0 := fun k hk hc => ⟨div_pos_rat (hl k hk hc) (rat_natpos hc), div_mul_rat (rat_natpos hc)⟩
  refine ⟨?_, hle _ (List.mem_cons_self ..), fun k hk hc => ?_, ?_⟩
  · show 0 < leastQ time _
    rcases List.mem_cons.mp hm with e | h
    · rw [e]; exact ht
    · obtain ⟨k, hk, hc, e⟩ := mem_lens.mp h
      rw [e]
      exact (key k hk hc).1
  · have h1 := hle _ (List.mem_cons_of_mem _ (mem_lens.mpr ⟨k, hk, hc, rfl⟩))
    have h2 := Rat.mul_le_mul_of_nonneg_right h1 (Rat.le_of_lt (rat_natpos hc))
    rw [(key k hk hc).2] at h2
    exact h2
  · rcases List.mem_cons.mp hm with e | h
    · exact .inl e
    · obtain ⟨k, hk, hc, e⟩ := mem_lens.mp h
      refine .inr ⟨k, hk, hc, ?_⟩
      show leastQ time _ * _ = _
      rw [e]
      exact (key k hk hc).2
theorem slen_onD {eaten : List Int} {left : List Rat} {time : Rat} {i : Nat} (he : eaten.length ≤ 6) (ht : OnD (60 ^ i) time) (hl : ∀ q ∈ left, OnD (60 ^ i) q) : OnD (60 ^ (i + 1)) (slenQ eaten left time) := by
  have up : (60 : Nat) ^ i ∣ 60 ^ (i + 1) := ⟨60, Nat.pow_succ ..⟩
  rcases List.mem_cons.mp (leastQ_mem (lensTo eaten left left.length) time) with e | h
  · show OnD _ (leastQ time _)
    rw [e]
    exact ht.dvd up
  · obtain ⟨k, hk, hc, e⟩ := mem_lens.mp h
    show OnD _ (leastQ time _)
    rw [e]
    refine ((hl _ (getD_mem hk)).divN hc).dvd ?_
    rw [Nat.pow_succ]
    exact Nat.mul_dvd_mul_left _ (dvd60 hc (Nat.le_trans (cnt_le _ _) he))
theorem mem_zipRow {l : Rat} : ∀ {rows : List (List Rat)} {eaten : List Int} {row : List Rat}, row ∈ List.zipWith (addRow l) rows eaten → ∃ r x, r ∈ rows ∧ x ∈ eaten ∧ row = addRow l r x
  | [], _, _, h => by simp at h
  | _ :: _, [], _, h => by simp at h
  | r :: rows, x :: eaten, row, h => by
    rw [List.zipWith_cons_cons] at h
    rcases List.mem_cons.mp h with e | h
    · exact ⟨r, x, List.mem_cons_self .., List.mem_cons_self .., e⟩
    · obtain ⟨r', x', h1, h2, h3⟩ := mem_zipRow h
      exact ⟨r', x', List.mem_cons_of_mem _ h1, List.mem_cons_of_mem _ h2, h3⟩
theorem mem_addRow {l : Rat} {row : List Rat} {x : Int} {q : Rat} (h : q ∈ addRow l row x) : q ∈ row ∨ (q = row.getD x.toNat 0 + l) := by
  unfold addRow at h
  rcases List.mem_or_eq_of_mem_set h with h | h
  · exact .inl h
  · exact .inr h
theorem addRow_len (l : Rat) (row : List Rat) (x : Int) : (addRow l row x).length = row.length := List.length_set
theorem MInv.left_pos {t : Table} {i : Nat} {s : MS} (I : MInv t i s) {fo : List (List Int)} (F : FoOk t.1.length fo) : ∀ k, k < s.left.length → 0 < cntQ (eatenQ fo s.left) k → 0 < s.left.getD k 0 := fun k hk hc => by
  have h1 := cnt_left (fo := fo) (left := s.left) (by rw [I.ll]; exact F.rg) hk hc
  have h2 := (I.l0 _ (getD_mem hk)).1
  grind
theorem MInv.slen {t : Table} {i : Nat} {s : MS} (I : MInv t i s) {fo : List (List Int)} (F : FoOk t.1.length fo) (ht : s.time ≠ 0) : SLen (eatenQ fo s.left) s.left s.time (slenQ (eatenQ fo s.left) s.left s.time) :=
  slen_spec (by have := I.t0.1; grind) (I.left_pos F)
theorem MInv.next {t : Table} {i : Nat} {s : MS} (I : MInv t i s) {fo : List (List Int)} (F : FoOk t.1.length fo) (hfl : fo.length = t.2.length) (ht : s.time ≠ 0) : MInv t (i + 1) (mnext fo s) ∧ mus (mnext fo s) < mus s := by
  have S := I.slen F ht
  have he : (eatenQ fo s.left).length ≤ 6 := by rw [eatenQ, List.length_map]; exact F.len
  have hel : (eatenQ fo s.left).length = t.2.length := by rw [eatenQ, List.length_map, hfl]
  have D := slen_onD he I.tD I.lD
  have up : (60 : Nat) ^ i ∣ 60 ^ (i + 1) := ⟨60, Nat.pow_succ ..⟩
  have hlp := I.left_pos F
  unfold mnext
  generalize hl : slenQ (eatenQ fo s.left) s.left s.time = l at *
  generalize hE : eatenQ fo s.left = eaten at *
  have cI : ∀ k, ((cntQ eaten k : Nat) : Rat) = (((cntQ eaten k : Nat) : Int) : Rat) := fun k => (Rat.intCast_natCast _).symm
  have cz : ∀ k, ¬ 0 < cntQ eaten k → ((cntQ eaten k : Nat) : Rat) = 0 := fun k h => by
    rw [show cntQ eaten k = 0 by omega]; rfl
  have nl0 : ∀ k, k < s.left.length → 0 ≤ s.left.getD k 0 - l * ((cntQ eaten k : Nat) : Rat) ∧ s.left.getD k 0 - l * ((cntQ eaten k : Nat) : Rat) ≤ s.left.getD k 0 := fun k hk => by
    have hp := S.pos
    have hn : (0 : Rat) ≤ ((cntQ eaten k : Nat) : Rat) := Rat.natCast_nonneg
    have hm : 0 ≤ l * ((cntQ eaten k : Nat) : Rat) := Rat.mul_nonneg (Rat.le_of_lt hp) hn
    by_cases hc : 0 < cntQ eaten k
    · have := S.all k hk hc
      grind
    · rw [cz k hc]
      have := (I.l0 _ (getD_mem hk)).1
      grind
  refine ⟨⟨?_, ?_, ?_, ?_, ?_, ?_, ?_, ?_, ?_, ?_⟩, ?_⟩
  · show (newLeft ..).length = _
    rw [newLeft_len, I.ll]
  · show (List.zipWith ..).length = _
    rw [List.length_zipWith, I.sl, hel, Nat.min_self]
  · intro row hr
    obtain ⟨r, x, h1, _, rfl⟩ := mem_zipRow hr
    rw [addRow_len, I.rl r h1]
  · intro q hq
    obtain ⟨k, hk, rfl⟩ := mem_newLeft hq
    refine ((I.lD _ (getD_mem hk)).dvd up).sub ?_
    rw [cI k]
    exact D.mulI _
  · intro q hq
    obtain ⟨k, hk, rfl⟩ := mem_newLeft hq
    have := nl0 k hk
    have := (I.l0 _ (getD_mem hk)).2
    grind
  · exact (I.tD.dvd up).sub D
  · have := S.le
    have := S.pos
    have := I.t0
    show 0 ≤ s.time - l ∧ s.time - l ≤ 1
    grind
  · intro row hr q hq
    obtain ⟨r, x, h1, _, rfl⟩ := mem_zipRow hr
    rcases mem_addRow hq with h | h
    · exact (I.sD r h1 q h).dvd up
    · rw [h]
      by_cases hx : x.toNat < r.length
      · exact ((I.sD r h1 _ (getD_mem hx)).dvd up).add D
      · rw [List.getD_eq_getElem?_getD, List.getElem?_eq_none (by omega)]
        show OnD _ (0 + l)
        rw [Rat.zero_add]
        exact D
  · intro row hr q hq
    obtain ⟨r, x, h1, _, rfl⟩ := mem_zipRow hr
    have hp := S.pos
    have hle := S.le
    show 0 ≤ q ∧ q ≤ 1 - (s.time - l)
    rcases mem_addRow hq with h | h
    · have := I.s0 r h1 q h
      grind
    · rw [h]
      by_cases hx : x.toNat < r.length
      · have := I.s0 r h1 _ (getD_mem hx)
        grind
      · rw [List.getD_eq_getElem?_getD, List.getElem?_eq_none (by omega)]
        have := I.t0
        show 0 ≤ 0 + l ∧ 0 + l ≤ _
        grind
  · show (s.steps ++ [_]).length ≤ i + 1
    rw [List.length_append]
    have := I.st
    simp
    exact this
  · have hz : ∀ k, k < s.left.length → s.left.getD k 0 = 0 → (newLeft eaten s.left l).getD k 0 = 0 := fun k hk h0 => by
      rw [newLeft_get hk]
      by_cases hc : 0 < cntQ eaten k
      · have := hlp k hk hc
        rw [h0] at this
        exact absurd this Rat.lt_irrefl
      · rw [cz k hc, h0]
        grind
    have hmono : ∀ k ∈ List.range s.left.length, decide ((newLeft eaten s.left l).getD k 0 ≠ 0) = true → decide (s.left.getD k 0 ≠ 0) = true := fun k hk h => by
      have h := of_decide_eq_true h
      exact decide_eq_true fun z => h (hz k (List.mem_range.mp hk) z)
    unfold mus musL
    show (List.range (newLeft eaten s.left l).length).countP (fun k => decide ((newLeft eaten s.left l).getD k 0 ≠ 0)) + (if s.time - l = 0 then 0 else 1) < (List.range s.left.length).countP (fun k => decide (s.left.getD k 0 ≠ 0)) + (if s.time = 0 then 0 else 1)
    rw [newLeft_len, if_neg ht]
    have hle : (List.range s.left.length).countP (fun k => decide ((newLeft eaten s.left l).getD k 0 ≠ 0)) ≤ (List.range s.left.length).countP (fun k => decide (s.left.getD k 0 ≠ 0)) := List.countP_mono_left hmono
    rcases S.end' with h | ⟨k, hk, hc, h⟩
    · rw [if_pos (by rw [h]; exact Rat.sub_self)]
      omega
    · have := countP_lt hmono ⟨k, List.mem_range.mpr hk, decide_eq_true (by have := hlp k hk hc; intro z; rw [z] at this; exact absurd this Rat.lt_irrefl), decide_eq_false (by rw [newLeft_get hk, h]; intro z; exact z Rat.sub_self)⟩
      split <;> omega
theorem MTab.fo {t : Table} (M : MTab t) : FoOk t.1.length (fosQ t) := by
  refine ⟨by rw [fosQ, List.length_map]; exact M.a, fun o ho x hx => ?_, fun o ho => ?_⟩
  · obtain ⟨p, hp, rfl⟩ := List.mem_map.mp ho
    unfold fullO at hx
    rcases List.mem_append.mp hx with hx | hx
    · rcases List.mem_append.mp hx with hx | hx
      · have := M.os p hp x hx; omega
      · have := List.mem_singleton.mp hx; omega
    · have := rng_mem.mp (List.mem_filter.mp hx).1
      omega
  · obtain ⟨p, hp, rfl⟩ := List.mem_map.mp ho
    unfold fullO
    simp
theorem MTab.inv0 {t : Table} (M : MTab t) : MInv t 0 (mst t 0) := by
  refine ⟨by simp [mst], by simp [mst], ?_, ?_, ?_, ?_, ?_, ?_, ?_, by simp [mst]⟩
  · intro row hr
    obtain ⟨_, _, rfl⟩ := List.mem_map.mp hr
    simp
  · intro q hq
    obtain ⟨c, _, rfl⟩ := List.mem_map.mp hq
    exact OnD.int c
  · intro q hq
    obtain ⟨c, hc, rfl⟩ := List.mem_map.mp hq
    have := M.c c hc
    exact ⟨Rat.intCast_nonneg.mpr this.1, by have := Rat.intCast_le_intCast.mpr this.2; exact this⟩
  · exact OnD.int 1
  · show (0 : Rat) ≤ 1 ∧ (1 : Rat) ≤ 1
    grind
  · intro row hr q hq
    obtain ⟨_, _, rfl⟩ := List.mem_map.mp hr
    rw [(List.mem_replicate.mp hq).2]
    exact OnD.int 0
  · intro row hr q hq
    obtain ⟨_, _, rfl⟩ := List.mem_map.mp hr
    rw [(List.mem_replicate.mp hq).2]
    show (0 : Rat) ≤ 0 ∧ (0 : Rat) ≤ 1 - 1
    grind
theorem MTab.inv {t : Table} (M : MTab t) : ∀ i, MInv t i (mst t i) ∧ ((mst t i).time = 0 ∨ i + mus (mst t i) ≤ t.1.length + 1)
  | 0 => ⟨M.inv0, .inr (by
    have h1 : musL (mst t 0).left ≤ t.1.length := by
      have := List.countP_le_length (p := fun k => decide ((mst t 0).left.getD k 0 ≠ 0)) (l := List.range (mst t 0).left.length)
      rw [List.length_range, M.inv0.ll] at this
      unfold musL
      rw [M.inv0.ll]
      exact this
    unfold mus
    split <;> omega)⟩
  | i + 1 => by
    obtain ⟨I, h⟩ := M.inv i
    show MInv t (i + 1) (mstep (fosQ t) (mst t i)) ∧ _
    by_cases hz : (mst t i).time = 0
    · have e : mst t (i + 1) = mst t i := by show mstep _ _ = _; rw [mstep, if_pos hz]
      rw [e, mstep, if_pos hz]
      have up : (60 : Nat) ^ i ∣ 60 ^ (i + 1) := ⟨60, Nat.pow_succ ..⟩
      exact ⟨⟨I.ll, I.sl, I.rl, fun q hq => (I.lD q hq).dvd up, I.l0, I.tD.dvd up, I.t0, fun r hr q hq => (I.sD r hr q hq).dvd up, I.s0, Nat.le_succ_of_le I.st⟩, .inl hz⟩
    · have e : mst t (i + 1) = mnext (fosQ t) (mst t i) := by show mstep _ _ = _; rw [mstep, if_neg hz]
      obtain ⟨J, hm⟩ := I.next M.fo (by rw [fosQ, List.length_map]) hz
      rw [e, mstep, if_neg hz]
      refine ⟨J, .inr ?_⟩
      rcases h with h | h
      · exact absurd h hz
      · omega
theorem MTab.fin {t : Table} (M : MTab t) : (mealQ t).time = 0 := by
  obtain ⟨I, h⟩ := M.inv (t.1.length + 1)
  rcases h with h | h
  · exact h
  · by_cases hz : (mealQ t).time = 0
    · exact hz
    · have : 0 < mus (mst t (t.1.length + 1)) := by
        unfold mus
        have hz' : ¬ (mst t (t.1.length + 1)).time = 0 := hz
        rw [if_neg hz']
        omega
      omega
theorem mst_stable {t : Table} {i : Nat} (h : (mst t i).time = 0) : ∀ j, mst t (i + j) = mst t i
  | 0 => rfl
  | j + 1 => by
    show mstep _ (mst t (i + j)) = _
    rw [mst_stable h j, mstep, if_pos h]
end DL
namespace DL
open PySem PySem.Spec PyProof.Rows L2
/-! ### == of data without bools -/
mutual
def nb : PyData → Bool
  | .bool _ => false
  | .dict _ => false
  | .list xs => nbs xs
  | .tuple xs => nbs xs
  | _ => true
def nbs : List PyData → Bool
  | [] => true
  | x :: xs => nb x && nbs xs
end
mutual
theorem eqv_nb : ∀ (d e : PyData), nb d = true → nb e = true → (PyData.eqv d e = true ↔ d = e)
  | .none, e, _, he => by cases e <;> simp [PyData.eqv, nb] at *
  | .bool _, _, hd, _ => by simp [nb] at hd
  | .dict _, _, hd, _ => by simp [nb] at hd
  | .int i, e, _, he => by cases e <;> simp [PyData.eqv, nb] at *
  | .str i, e, _, he => by cases e <;> simp [PyData.eqv, nb] at *
  | .list xs, .list ys, hd, he => by
    rw [PyData.eqv, eqvAll_nb xs ys (by rw [nb] at hd; exact hd) (by rw [nb] at he; exact he)]
    simp
  | .tuple xs, .tuple ys, hd, he => by
    rw [PyData.eqv, eqvAll_nb xs ys (by rw [nb] at hd; exact hd) (by rw [nb] at he; exact he)]
    simp
  | .list xs, .none, _, _ => by simp [PyData.eqv]
  | .list xs, .bool _, _, he => by simp [nb] at he
  | .list xs, .dict _, _, he => by simp [nb] at he
  | .list xs, .int _, _, _ => by simp [PyData.eqv]
  | .list xs, .str _, _, _ => by simp [PyData.eqv]
  | .list xs, .tuple _, _, _ => by simp [PyData.eqv]
  | .tuple xs, .none, _, _ => by simp [PyData.eqv]
  | .tuple xs, .bool _, _, he => by simp [nb] at he
  | .tuple xs, .dict _, _, he => by simp [nb] at he
  | .tuple xs, .int _, _, _ => by simp [PyData.eqv]
  | .tuple xs, .str _, _, _ => by simp [PyData.eqv]
  | .tuple xs, .list _, _, _ => by simp [PyData.eqv]
theorem eqvAll_nb : ∀ (xs ys : List PyData), nbs xs = true → nbs ys = true → (PyData.eqvAll xs ys = true ↔ xs = ys)
  | [], [], _, _ => by simp [PyData.eqvAll]
  | [], _ :: _, _, _ => by simp [PyData.eqvAll]
  | _ :: _, [], _, _ => by simp [PyData.eqvAll]
  | x :: xs, y :: ys, hd, he => by
    rw [nbs, Bool.and_eq_true] at hd he
    rw [PyData.eqvAll, Bool.and_eq_true, eqv_nb x y hd.1 he.1, eqvAll_nb xs ys hd.2 he.2]
    simp
end
theorem nbs_all : ∀ {xs : List PyData}, (∀ x ∈ xs, nb x = true) → nbs xs = true
  | [], _ => rfl
  | x :: xs, h => by
    rw [nbs, Bool.and_eq_true]
    exact ⟨h x (List.mem_cons_self ..), nbs_all fun y hy => h y (List.mem_cons_of_mem _ hy)⟩
theorem nb_map {α : Type} {xs : List α} {f : α → PyData} (h : ∀ x ∈ xs, nb (f x) = true) : nb (.list (xs.map f)) = true := by
  rw [nb]
  refine nbs_all fun y hy => ?_
  obtain ⟨x, hx, rfl⟩ := List.mem_map.mp hy
  exact h x hx
theorem nb_ints (ns : List Int) : nb (.list (ns.map .int)) = true := nb_map fun _ _ => rfl
theorem nb_fr (q : Rat) : nb (frQ q) = true := rfl
theorem nb_frs (qs : List Rat) : nb (frsQ qs) = true := nb_map fun q _ => nb_fr q
theorem cm_eqN {d e : PyData} (hd : nb d = true) (he : nb e = true) (hp : min d.depth e.depth ≤ 60) : ∃ k r, cmD .Eq d e = some (k, r) ∧ k ∧ (r = true ↔ d = e) := by
  by_cases hi : ∃ i j, d = .int i ∧ e = .int j
  · obtain ⟨i, j, rfl, rfl⟩ := hi
    exact ⟨True, decide (i = j), rfl, trivial, by simp⟩
  · refine ⟨min d.depth e.depth ≤ 60, PyData.eqv d e, ?_, hp, eqv_nb d e hd he⟩
    unfold cmD
    split <;> first | rfl | (exfalso; apply hi; exact ⟨_, _, rfl, rfl⟩) | simp_all
theorem cm_neN {d e : PyData} (hd : nb d = true) (he : nb e = true) (hp : min d.depth e.depth ≤ 60) : ∃ k r, cmD .NotEq d e = some (k, r) ∧ k ∧ (r = true ↔ d ≠ e) := by
  by_cases hi : ∃ i j, d = .int i ∧ e = .int j
  · obtain ⟨i, j, rfl, rfl⟩ := hi
    exact ⟨True, !decide (i = j), rfl, trivial, by simp⟩
  · refine ⟨min d.depth e.depth ≤ 60, !PyData.eqv d e, ?_, hp, ?_⟩
    · unfold cmD
      split <;> first | rfl | (exfalso; apply hi; exact ⟨_, _, rfl, rfl⟩) | simp_all
    · have := eqv_nb d e hd he
      cases h : PyData.eqv d e with
      | true => simp [this.mp h]
      | false =>
        simp
        intro z
        have := this.mpr z
        rw [h] at this
        cases this
section
variable {X : Cx} {ρ : DEnv} {a b : Expr} {pos : Pos}
theorem rt_eqN {Q : Bool → Prop} (hu : X.A.units + 65 < cLine) (h : RV X a ρ fun d1 => RV X b ρ fun d2 => nb d1 = true ∧ nb d2 = true ∧ min d1.depth d2.depth ≤ 60 ∧ ∀ r : Bool, (r = true ↔ d1 = d2) → Q r) (hm : behindInMarks .Eq b = false := by first | exact nomark _ | rfl) : RT X (.Compare a [.Eq] [b] pos) ρ Q :=
  rt_cmp hu (rv_mono h fun d1 h => rv_mono h fun d2 ⟨h1, h2, h3, q⟩ => by
    obtain ⟨k, r, g1, g2, g3⟩ := cm_eqN h1 h2 h3
    exact ⟨k, r, g1, g2, q r g3⟩) hm
theorem rt_neN {Q : Bool → Prop} (hu : X.A.units + 65 < cLine) (h : RV X a ρ fun d1 => RV X b ρ fun d2 => nb d1 = true ∧ nb d2 = true ∧ min d1.depth d2.depth ≤ 60 ∧ ∀ r : Bool, (r = true ↔ d1 ≠ d2) → Q r) (hm : behindInMarks .NotEq b = false := by first | exact nomark _ | rfl) : RT X (.Compare a [.NotEq] [b] pos) ρ Q :=
  rt_cmp hu (rv_mono h fun d1 h => rv_mono h fun d2 ⟨h1, h2, h3, q⟩ => by
    obtain ⟨k, r, g1, g2, g3⟩ := cm_neN h1 h2 h3
    exact ⟨k, r, g1, g2, q r g3⟩) hm
theorem rd_eqN {Q : DE → Prop} (hu : X.A.units + 65 < cLine) (h : RV X a ρ fun d1 => RV X b ρ fun d2 => nb d1 = true ∧ nb d2 = true ∧ min d1.depth d2.depth ≤ 60 ∧ ∀ r : Bool, (r = true ↔ d1 = d2) → Q (.fz (.bool r))) (hm : behindInMarks .Eq b = false := by first | exact nomark _ | rfl) : RD X (.Compare a [.Eq] [b] pos) ρ Q :=
  rd_cmp hu (rv_mono h fun d1 h => rv_mono h fun d2 ⟨h1, h2, h3, q⟩ => by
    obtain ⟨k, r, g1, g2, g3⟩ := cm_eqN h1 h2 h3
    exact ⟨k, r, g1, g2, q r g3⟩) hm
/-- fractions -/
theorem rt_neQ {Q : Bool → Prop} (hu : X.A.units + 65 < cLine) (h : RV X a ρ fun d1 => RV X b ρ fun d2 => ∃ p q : Rat, d1 = frQ p ∧ d2 = frQ q ∧ Q (decide (p ≠ q))) (hm : behindInMarks .NotEq b = false := by first | exact nomark _ | rfl) : RT X (.Compare a [.NotEq] [b] pos) ρ Q :=
  rt_neN hu (rv_mono h fun d1 h => rv_mono h fun d2 ⟨p, q, e1, e2, qq⟩ => by
    subst e1 e2
    refine ⟨rfl, rfl, by show min 1 1 ≤ 60; decide, fun r hr => ?_⟩
    have : r = decide (p ≠ q) := by
      rw [Bool.eq_iff_iff, hr, decide_eq_true_eq]
      exact ⟨fun h z => h (by rw [z]), fun h z => h (frQ_inj z)⟩
    rw [this]
    exact qq) hm
theorem rt_eqQ {Q : Bool → Prop} (hu : X.A.units + 65 < cLine) (h : RV X a ρ fun d1 => RV X b ρ fun d2 => ∃ p q : Rat, d1 = frQ p ∧ d2 = frQ q ∧ Q (decide (p = q))) (hm : behindInMarks .Eq b = false := by first | exact nomark _ | rfl) : RT X (.Compare a [.Eq] [b] pos) ρ Q :=
  rt_eqN hu (rv_mono h fun d1 h => rv_mono h fun d2 ⟨p, q, e1, e2, qq⟩ => by
    subst e1 e2
    refine ⟨rfl, rfl, by show min 1 1 ≤ 60; decide, fun r hr => ?_⟩
    have : r = decide (p = q) := by
      rw [Bool.eq_iff_iff, hr, decide_eq_true_eq]
      exact ⟨fun h => frQ_inj h, fun h => by rw [h]⟩
    rw [this]
    exact qq) hm
end
end DL
namespace DL
open PySem PySem.Spec PyProof.Rows L2
theorem atI_frs {left : List Rat} {x : Int} (h : 0 ≤ x) (h2 : x < left.length) : atI (left.map frQ) x = some (frQ (leftAt left x)) := atI_map left frQ 0 x h h2
theorem eats1_at {left : List Rat} : ∀ {o : List Int} {k : Nat} {x : Int}, o[k]? = some x → (∀ y ∈ o.take k, ¬ (y = left.length ∨ leftAt left y ≠ 0)) → (x = left.length ∨ leftAt left x ≠ 0) → eats1 left o = x
  | [], _, _, h, _, _ => by simp at h
  | y :: o, 0, x, h, _, hx => by
    have e : y = x := by simpa using h
    subst e
    rw [eats1, if_pos hx]
  | y :: o, k + 1, x, h, hp, hx => by
    rw [eats1, if_neg (hp y (by rw [List.take_succ_cons]; exact List.mem_cons_self ..))]
    exact eats1_at (by simpa using h) (fun z hz => hp z (by rw [List.take_succ_cons]; exact List.mem_cons_of_mem _ hz)) hx
end DL
namespace DL
open PySem PySem.Spec PyProof.Rows L2
theorem q_int (z : Int) : Rat.divInt z 1 = ((z : Int) : Rat) := by
  have := Rat.num_divInt_den ((z : Int) : Rat)
  simpa using this
theorem smQ_int {z : Int} (h : z.natAbs < 2 ^ 200) : SmQ ((z : Int) : Rat) := by
  refine ⟨?_, ?_⟩
  · rw [Rat.num_intCast]
    exact Nat.lt_of_lt_of_le h (Nat.pow_le_pow_right (by decide) (by decide))
  · rw [Rat.den_intCast]
    exact Nat.one_lt_two_pow (by decide)
theorem smQ_0 : SmQ 0 := smQ_int (z := 0) (by decide)
theorem smQ_1 : SmQ 1 := smQ_int (z := 1) (by decide)
theorem sm_1 : Sm 1 := smI 1 (by decide) (by decide)
theorem lensTo_succ (eaten : List Int) (left : List Rat) (m : Nat) : lensTo eaten left (m + 1) = lensTo eaten left m ++ (if 0 < cntQ eaten m then [left.getD m 0 / ((cntQ eaten m : Nat) : Rat)] else []) := by
  unfold lensTo
  rw [List.range_succ, List.filterMap_append]
  congr 1
  split <;> rename_i h <;> simp [h]
theorem lensTo_len (eaten : List Int) (left : List Rat) (m : Nat) : (lensTo eaten left m).length ≤ m := by
  have := List.length_filterMap_le (fun k => if 0 < cntQ eaten k then some (left.getD k 0 / ((cntQ eaten k : Nat) : Rat)) else none) (List.range m)
  rwa [List.length_range] at this
end DL
namespace DL
open PySem PySem.Spec PyProof.Rows L2
/-! ### the meal, as data -/
abbrev stepD (s : Rat × List Int × List Int) : PyData := .tuple [frQ s.1, numsD s.2.1, numsD s.2.2]
abbrev stepsD (ss : List (Rat × List Int × List Int)) : PyData := .list (ss.map stepD)
abbrev sharesD (sh : List (List Rat)) : PyData := .list (sh.map frsQ)
abbrev mealD (m : MS) : PyData := .tuple [stepsD m.steps, sharesD m.shares]
theorem smq60 {i : Nat} {q : Rat} (hi : i ≤ 8) (h : OnD (60 ^ i) q) (lo : -20 ≤ q) (h2 : q ≤ 20) : SmQ q := by
  refine smQ_of (M := 20) h (Nat.pow_pos (by decide)) ?_ ?_ lo h2
  · refine Nat.lt_of_le_of_lt (Nat.pow_le_pow_right (by decide) hi) ?_
    exact Nat.lt_of_lt_of_le (show 60 ^ 8 < 2 ^ 48 by decide) (Nat.pow_le_pow_right (by decide) (by decide))
  · exact Nat.lt_of_lt_of_le (show 20 < 2 ^ 5 by decide) (Nat.pow_le_pow_right (by decide) (by decide))
/-- some rows done, the others as they were -/
def mixRows (Z sh : List (List Rat)) (k : Nat) : List (List Rat) := Z.take k ++ sh.drop k
theorem mixRows_len {Z sh : List (List Rat)} (h : Z.length = sh.length) (k : Nat) : (mixRows Z sh k).length = sh.length := by
  unfold mixRows
  rw [List.length_append, List.length_take, List.length_drop]
  omega
theorem mixRows_get {Z sh : List (List Rat)} (h : Z.length = sh.length) {k : Nat} (hk : k < sh.length) : (mixRows Z sh k)[k]? = sh[k]? := by
  unfold mixRows
  rw [List.getElem?_append_right (by rw [List.length_take]; omega), List.length_take, List.getElem?_drop]
  congr 1
  omega
theorem mixRows_succ {Z sh : List (List Rat)} (h : Z.length = sh.length) {k : Nat} {z : List Rat} (hz : Z[k]? = some z) : mixRows Z sh (k + 1) = (mixRows Z sh k).set k z := by
  obtain ⟨hk, hz'⟩ := List.getElem?_eq_some_iff.mp hz
  apply List.ext_getElem?
  intro i
  unfold mixRows
  by_cases hi : i = k
  · subst hi
    rw [List.getElem?_set_self (by rw [List.length_append, List.length_take, List.length_drop]; omega), List.getElem?_append_left (by rw [List.length_take]; omega), List.getElem?_take_of_lt (by omega), hz]
  · rw [List.getElem?_set_ne (by omega)]
    by_cases h1 : i < k
    · rw [List.getElem?_append_left (by rw [List.length_take]; omega), List.getElem?_append_left (by rw [List.length_take]; omega), List.getElem?_take_of_lt (by omega), List.getElem?_take_of_lt h1]
    · rw [List.getElem?_append_right (by rw [List.length_take]; omega), List.getElem?_append_right (by rw [List.length_take]; omega), List.length_take, List.length_take, List.getElem?_drop, List.getElem?_drop]
      congr 1
      omega
theorem mixRows_all {Z sh : List (List Rat)} (h : Z.length = sh.length) : mixRows Z sh sh.length = Z := by
  unfold mixRows
  rw [List.drop_length, List.append_nil, ← h, List.take_length]
theorem modAt_one {xs : List PyData} {k : Nat} {x e : PyData} (h : xs[k]? = some x) : modAt (.list xs) [k] e = .list (xs.set k e) := by
  rw [modAt, h]
  rfl
theorem subAt_one {xs : List PyData} {k : Nat} {x : PyData} (h : xs[k]? = some x) : subAt (.list xs) [k] = some x := by
  unfold subAt kids
  simp only [h]
  rfl
theorem rep_frs (n : Nat) : (List.replicate n [frQ 0]).flatten = (List.replicate n (0 : Rat)).map frQ := by
  induction n with
  | zero => rfl
  | succ n ih => rw [List.replicate_succ, List.flatten_cons, ih, List.replicate_succ, List.map_cons]; rfl
theorem map_range_get {α β : Type} (xs : List α) (d : α) (f : α → β) : ((List.range xs.length).map fun j => f (xs.getD j d)) = xs.map f := by
  apply List.ext_getElem?
  intro i
  rw [List.getElem?_map, List.getElem?_map]
  by_cases h : i < xs.length
  · rw [List.getElem?_range h, List.getElem?_eq_getElem h]
    show some (f (xs.getD i d)) = some (f xs[i])
    rw [List.getD_eq_getElem?_getD, List.getElem?_eq_getElem h]
    rfl
  · rw [List.getElem?_eq_none (by rw [List.length_range]; omega), List.getElem?_eq_none (by omega)]
    rfl
def mixLeft (nl left : List Rat) (k : Nat) : List Rat := nl.take k ++ left.drop k
theorem mixLeft_len {Z sh : List Rat} (h : Z.length = sh.length) (k : Nat) : (mixLeft Z sh k).length = sh.length := by
  unfold mixLeft
  rw [List.length_append, List.length_take, List.length_drop]
  omega
theorem mixLeft_get {Z sh : List Rat} (h : Z.length = sh.length) {k : Nat} (hk : k < sh.length) : (mixLeft Z sh k)[k]? = sh[k]? := by
  unfold mixLeft
  rw [List.getElem?_append_right (by rw [List.length_take]; omega), List.length_take, List.getElem?_drop]
  congr 1
  omega
theorem mixLeft_succ {Z sh : List Rat} (h : Z.length = sh.length) {k : Nat} {z : Rat} (hz : Z[k]? = some z) : mixLeft Z sh (k + 1) = (mixLeft Z sh k).set k z := by
  obtain ⟨hk, hz'⟩ := List.getElem?_eq_some_iff.mp hz
  apply List.ext_getElem?
  intro i
  unfold mixLeft
  by_cases hi : i = k
  · subst hi
    rw [List.getElem?_set_self (by rw [List.length_append, List.length_take, List.length_drop]; omega), List.getElem?_append_left (by rw [List.length_take]; omega), List.getElem?_take_of_lt (by omega), hz]
  · rw [List.getElem?_set_ne (by omega)]
    by_cases h1 : i < k
    · rw [List.getElem?_append_left (by rw [List.length_take]; omega), List.getElem?_append_left (by rw [List.length_take]; omega), List.getElem?_take_of_lt (by omega), List.getElem?_take_of_lt h1]
    · rw [List.getElem?_append_right (by rw [List.length_take]; omega), List.getElem?_append_right (by rw [List.length_take]; omega), List.length_take, List.length_take, List.getElem?_drop, List.getElem?_drop]
      congr 1
      omega
theorem mixLeft_all {Z sh : List Rat} (h : Z.length = sh.length) : mixLeft Z sh sh.length = Z := by
  unfold mixLeft
  rw [List.drop_length, List.append_nil, ← h, List.take_length]
theorem div_le_self {a : Rat} {c : Nat} (ha : 0 ≤ a) (hc : 0 < c) : 0 ≤ a / ((c : Nat) : Rat) ∧ a / ((c : Nat) : Rat) ≤ a := by
  have h1 := rat_natpos hc
  have h2 : a / ((c : Nat) : Rat) * ((c : Nat) : Rat) = a := div_mul_rat h1
  have h3 : 0 ≤ a / ((c : Nat) : Rat) := by
    rw [Rat.div_def]
    exact Rat.mul_nonneg ha (Rat.le_of_lt (Rat.inv_pos.mpr h1))
  refine ⟨h3, ?_⟩
  have h4 : (1 : Rat) ≤ ((c : Nat) : Rat) := by
    have := Rat.natCast_le_natCast.mpr (show 1 ≤ c from hc)
    exact this
  have h5 := Rat.mul_le_mul_of_nonneg_left h4 h3
  grind
theorem MInv.pre {t : Table} {i : Nat} {s : MS} (I : MInv t i s) {fo : List (List Int)} (F : FoOk t.1.length fo) (hi : i ≤ 7) (hn : t.1.length ≤ 6) {eaten : List Int} (hE : eaten = eatenQ fo s.left) : SmQ s.time ∧ (∀ q ∈ s.left, SmQ q) ∧ eaten.length ≤ 6 ∧ ∀ k, k < s.left.length → 0 < cntQ eaten k → SmQ (s.left.getD k 0 / ((cntQ eaten k : Nat) : Rat)) := by
  subst hE
  have he : (eatenQ fo s.left).length ≤ 6 := by rw [eatenQ, List.length_map]; exact F.len
  refine ⟨smq60 (by omega) I.tD (by have := I.t0; grind) (by have := I.t0; grind), fun q hq => smq60 (by omega) (I.lD q hq) (by have := I.l0 q hq; grind) (by have := I.l0 q hq; grind), he, fun k hk hc => ?_⟩
  have hd := div_le_self (I.l0 _ (getD_mem hk)).1 hc
  have hb := I.l0 _ (getD_mem hk)
  refine smq60 (i := i + 1) (by omega) (((I.lD _ (getD_mem hk)).divN hc).dvd ?_) (by grind) (by grind)
  rw [Nat.pow_succ]
  exact Nat.mul_dvd_mul_left _ (dvd60 hc (Nat.le_trans (cnt_le _ _) he))
end DL
namespace DL
open PySem PySem.Spec PyProof.Rows L2
theorem nodup_le {o : List Int} {n : Nat} (h : o.Nodup) (g : ∀ x ∈ o, 0 ≤ x ∧ x < (n : Int)) : o.length ≤ n := by
  have := L2.nat_nodup_len (o.map Int.toNat) (List.range n) (by
    refine List.pairwise_map.mpr (List.Pairwise.imp_of_mem (fun {a b} ha hb hne z => hne ?_) h)
    have := g a ha
    have := g b hb
    omega) (fun x hx => by
    obtain ⟨y, hy, rfl⟩ := List.mem_map.mp hx
    have := g y hy
    exact List.mem_range.mpr (by omega))
  rwa [List.length_map, List.length_range] at this
end DL
namespace DL
open PySem PySem.Spec PyProof.Rows L2
theorem keep_mod {is : List Nat} {ρ0 ρ' : DEnv} {j : Nat} {p : List Nat} {d e d' : PyData} (h : ρ'[j]? = some (.ow d)) (hm : modAt d p e = d') (k : Keep is ρ0 ((ρ'.map (kilP j p)).set j (.ow d'))) : Keep is ρ0 (modE (unVs ρ' []) j p e) := by
  have h' : (unVs ρ' [])[j]? = some (.ow d) := h
  rw [modE_ow h', hm]
  exact k
theorem modE_eq {ρ' : DEnv} {j : Nat} {p : List Nat} {d e d' : PyData} (h : ρ'[j]? = some (.ow d)) (hm : modAt d p e = d') : modE (unVs ρ' []) j p e = (ρ'.map (kilP j p)).set j (.ow d') := by
  have h' : (unVs ρ' [])[j]? = some (.ow d) := h
  rw [modE_ow h', hm]
  rfl
end DL
namespace DL
open PySem PySem.Spec PyProof.Rows L2
theorem rng_succ (m : Nat) : rng (m + 1) = rng m ++ [(m : Int)] := by
  unfold rng
  rw [List.range_succ, List.map_append]
  simp
theorem endedTo_succ (E : List Int) (nl : List Rat) (m : Nat) : endedTo E nl (m + 1) = endedTo E nl m ++ (if 0 < E.count (m : Int) ∧ ¬ 0 < nl.getD m 0 then [(m : Int)] else []) := by
  unfold endedTo
  rw [rng_succ, List.filter_append]
  congr 1
  have e : leftAt nl (m : Int) = nl.getD m 0 := by unfold leftAt; rw [Int.toNat_natCast]
  rw [List.filter_cons, e]
  by_cases h1 : 0 < E.count (m : Int) <;> by_cases h2 : 0 < nl.getD m 0 <;> simp [h1, h2]
theorem endedTo_len (E : List Int) (nl : List Rat) (m : Nat) : (endedTo E nl m).length ≤ m := by
  have := List.length_filter_le (fun x => decide (0 < E.count x) && !decide (0 < leftAt nl x)) (rng m)
  rwa [rng_len] at this
end DL
namespace DL
open PySem PySem.Spec PyProof.Rows L2
/-- an order of things below n -/
structure OrdQ (n : Nat) (o : List Int) : Prop where
  nd : o.Nodup
  rg : ∀ x ∈ o, 0 ≤ x ∧ x < (n : Int)
theorem OrdQ.len {n : Nat} {o : List Int} (h : OrdQ n o) : o.length ≤ n := nodup_le h.nd h.rg
theorem OrdQ.take {n : Nat} {o : List Int} (h : OrdQ n o) (k : Nat) : OrdQ n (o.take k) := ⟨h.nd.sublist (List.take_sublist ..), fun x hx => h.rg x (List.mem_of_mem_take hx)⟩
theorem mem_getD {xs : List Int} {k : Nat} (h : k < xs.length) : xs.getD k 0 ∈ xs := by
  rw [List.getD_eq_getElem?_getD, List.getElem?_eq_getElem h]
  exact List.getElem_mem h
theorem atI_nums {xs : List Int} {k : Nat} (h : k < xs.length) : atI (xs.map PyData.int) (k : Int) = some (.int (xs.getD k 0)) := atI_nat (by rw [List.getElem?_map, List.getD_eq_getElem?_getD, List.getElem?_eq_getElem h]; rfl)
end DL
namespace DL
open PySem PySem.Spec PyProof.Rows L2
/-! ### sums over beginnings -/
def sumOver (row : List Rat) (xs : List Int) : Rat := sumQ (xs.map (leftAt row))
def sumsTo (fo : List Int) (row : List Rat) (k : Nat) : List Rat := (List.range k).map fun j => sumOver row (fo.take (j + 1))
def sumsQ (fo : List Int) (row : List Rat) : List Rat := sumsTo fo row fo.length
theorem sumOver_take {row : List Rat} {fo : List Int} {k : Nat} {x : Int} (h : fo[k]? = some x) : sumOver row (fo.take (k + 1)) = sumOver row (fo.take k) + leftAt row x := by
  unfold sumOver
  rw [List.take_add_one, h, List.map_append, sumQ_app]
  show _ + (leftAt row x + 0) = _
  rw [Rat.add_zero]
theorem sumsTo_succ (fo : List Int) (row : List Rat) (k : Nat) : sumsTo fo row (k + 1) = sumsTo fo row k ++ [sumOver row (fo.take (k + 1))] := by
  unfold sumsTo
  rw [List.range_succ, List.map_append]
  rfl
theorem sumsTo_len (fo : List Int) (row : List Rat) (k : Nat) : (sumsTo fo row k).length = k := by
  unfold sumsTo
  rw [List.length_map, List.length_range]
theorem sumsTo_get {fo : List Int} {row : List Rat} {n k : Nat} (h : k < n) : (sumsTo fo row n)[k]? = some (sumOver row (fo.take (k + 1))) := by
  unfold sumsTo
  rw [List.getElem?_map, List.getElem?_range h]
  rfl
/-- sizes of a row and of its sums over an order -/
structure RowOk (fo : List Int) (row : List Rat) : Prop where
  el : ∀ q ∈ row, SmQ q
  su : ∀ k, SmQ (sumOver row (fo.take k))
  rg : ∀ x ∈ fo, 0 ≤ x ∧ x < (row.length : Int)
  fl : fo.length ≤ 100000
theorem RowOk.at {fo : List Int} {row : List Rat} (R : RowOk fo row) {x : Int} (h : x ∈ fo) : atI (row.map frQ) x = some (frQ (leftAt row x)) ∧ SmQ (leftAt row x) := by
  have hr := R.rg x h
  refine ⟨atI_frs hr.1 hr.2, R.el _ (getD_mem (by omega))⟩
theorem sum_bd {D : Nat} {row : List Rat} (h : ∀ q ∈ row, OnD D q ∧ 0 ≤ q ∧ q ≤ 1) (d0 : 0 < D) : ∀ xs : List Int, OnD D (sumOver row xs) ∧ 0 ≤ sumOver row xs ∧ sumOver row xs ≤ (xs.length : Nat)
  | [] => ⟨OnD.int 0, Rat.le_refl, Rat.le_refl⟩
  | x :: xs => by
    obtain ⟨h1, h2, h3⟩ := sum_bd h d0 xs
    have e : sumOver row (x :: xs) = leftAt row x + sumOver row xs := rfl
    have hx : OnD D (leftAt row x) ∧ 0 ≤ leftAt row x ∧ leftAt row x ≤ 1 := by
      unfold leftAt
      by_cases hl : x.toNat < row.length
      · exact h _ (getD_mem hl)
      · rw [List.getD_eq_getElem?_getD, List.getElem?_eq_none (by omega)]
        exact ⟨OnD.int 0, Rat.le_refl, by show (0 : Rat) ≤ 1; decide⟩
    rw [e, List.length_cons, Rat.natCast_add]
    refine ⟨hx.1.add h1, by grind, ?_⟩
    have : ((1 : Nat) : Rat) = 1 := rfl
    grind
theorem rowOk_of {D : Nat} {fo : List Int} {row : List Rat} (h : ∀ q ∈ row, OnD D q ∧ 0 ≤ q ∧ q ≤ 1) (d0 : 0 < D) (hD : D < 2 ^ 1990) (rg : ∀ x ∈ fo, 0 ≤ x ∧ x < (row.length : Int)) (fl : fo.length ≤ 1000) : RowOk fo row := by
  refine ⟨fun q hq => ?_, fun k => ?_, rg, by omega⟩
  · have := h q hq
    refine smQ_of (M := 1) this.1 d0 hD (Nat.one_lt_two_pow (by decide)) ?_ ?_
    · have : ((1 : Nat) : Rat) = 1 := rfl
      grind
    · have : ((1 : Nat) : Rat) = 1 := rfl
      grind
  · obtain ⟨h1, h2, h3⟩ := sum_bd h d0 (fo.take k)
    have hl : (fo.take k).length ≤ 1000 := by rw [List.length_take]; omega
    refine smQ_of (M := 1000) h1 d0 hD ?_ ?_ ?_
    · exact Nat.lt_of_lt_of_le (show 1000 < 2 ^ 10 by decide) (Nat.pow_le_pow_right (by decide) (by decide))
    · have : (0 : Rat) ≤ ((1000 : Nat) : Rat) := Rat.natCast_nonneg
      grind
    · have := Rat.natCast_le_natCast.mpr hl
      grind
def firstMoreQ : List Rat → List Rat → Nat → Nat
  | a :: m, b :: t, k => if a < b then k + 1 else firstMoreQ m t (k + 1)
  | _, _, _ => 0
theorem firstMore_at : ∀ {m t : List Rat} {k s : Nat} {a b : Rat}, m[k]? = some a → t[k]? = some b → a < b → (∀ j : Nat, j < k → ∀ a b, m[j]? = some a → t[j]? = some b → ¬ a < b) → firstMoreQ m t s = s + k + 1
  | [], _, _, _, _, _, h, _, _, _ => by simp at h
  | _ :: _, [], _, _, _, _, _, h, _, _ => by simp at h
  | x :: m, y :: t, 0, s, a, b, h, g, hl, _ => by
    have e1 : x = a := by simpa using h
    have e2 : y = b := by simpa using g
    rw [firstMoreQ, e1, e2, if_pos hl]
  | x :: m, y :: t, k + 1, s, a, b, h, g, hl, hp => by
    rw [firstMoreQ, if_neg (hp 0 (by omega) x y rfl rfl), firstMore_at (k := k) (a := a) (b := b) (by simpa using h) (by simpa using g) hl (fun j hj a b ha hb => hp (j + 1) (by omega) a b (by simpa using ha) (by simpa using hb))]
    omega
theorem firstMore_none : ∀ {m t : List Rat} {s : Nat}, (∀ (j : Nat) a b, m[j]? = some a → t[j]? = some b → ¬ a < b) → firstMoreQ m t s = 0
  | [], _, _, _ => by rw [firstMoreQ]; simp
  | _ :: _, [], _, _ => by rw [firstMoreQ]; simp
  | x :: m, y :: t, s, h => by
    rw [firstMoreQ, if_neg (h 0 x y rfl rfl)]
    exact firstMore_none fun j a b ha hb => h (j + 1) a b (by simpa using ha) (by simpa using hb)
def envyRow (fo : List Int) (i : Nat) (row : List Rat) (shares : List (List Rat)) (m : Nat) : List (Int × Int × Int) :=
  (List.range m).filterMap fun j => if 0 < firstMoreQ (sumsQ fo row) (sumsQ fo (shares.getD j [])) 0 then some ((i : Int), (j : Int), ((firstMoreQ (sumsQ fo row) (sumsQ fo (shares.getD j [])) 0 : Nat) : Int)) else none
def envyQ (fos : List (List Int)) (shares : List (List Rat)) (n : Nat) : List (Int × Int × Int) :=
  (List.range n).flatMap fun i => envyRow (fos.getD i []) i (shares.getD i []) shares shares.length
theorem envyRow_succ (fo : List Int) (i : Nat) (row : List Rat) (shares : List (List Rat)) (m : Nat) : envyRow fo i row shares (m + 1) = envyRow fo i row shares m ++ (if 0 < firstMoreQ (sumsQ fo row) (sumsQ fo (shares.getD m [])) 0 then [((i : Int), (m : Int), ((firstMoreQ (sumsQ fo row) (sumsQ fo (shares.getD m [])) 0 : Nat) : Int))] else []) := by
  unfold envyRow
  rw [List.range_succ, List.filterMap_append]
  congr 1
  by_cases h : 0 < firstMoreQ (sumsQ fo row) (sumsQ fo (shares.getD m [])) 0
  · simp only [List.filterMap_cons, List.filterMap_nil, if_pos h]
  · simp only [List.filterMap_cons, List.filterMap_nil, if_neg h]
theorem envyQ_succ (fos : List (List Int)) (shares : List (List Rat)) (n : Nat) : envyQ fos shares (n + 1) = envyQ fos shares n ++ envyRow (fos.getD n []) n (shares.getD n []) shares shares.length := by
  unfold envyQ
  rw [List.range_succ, List.flatMap_append]
  simp
theorem envyRow_len (fo : List Int) (i : Nat) (row : List Rat) (shares : List (List Rat)) (m : Nat) : (envyRow fo i row shares m).length ≤ m := by
  have := List.length_filterMap_le (fun j => if 0 < firstMoreQ (sumsQ fo row) (sumsQ fo (shares.getD j [])) 0 then some ((i : Int), (j : Int), ((firstMoreQ (sumsQ fo row) (sumsQ fo (shares.getD j [])) 0 : Nat) : Int)) else none) (List.range m)
  rwa [List.length_range] at this
theorem envyQ_len (fos : List (List Int)) (shares : List (List Rat)) : ∀ n : Nat, (envyQ fos shares n).length ≤ n * shares.length
  | 0 => by simp [envyQ]
  | n + 1 => by
    rw [envyQ_succ, List.length_append]
    have := envyQ_len fos shares n
    have := envyRow_len (fos.getD n []) n (shares.getD n []) shares shares.length
    rw [Nat.add_mul]
    omega
abbrev tripD (x : Int × Int × Int) : PyData := .tuple [.int x.1, .int x.2.1, .int x.2.2]
end DL
namespace DL
open PySem PySem.Spec PyProof.Rows L2
/-! ### nobody would have another's row of the meal -/
theorem leftAt_addRow {l : Rat} {row : List Rat} {x y : Int} (hx : 0 ≤ x) (hx2 : x.toNat < row.length) (hy : 0 ≤ y) : leftAt (addRow l row x) y = leftAt row y + if y = x then l else 0 := by
  unfold leftAt addRow
  rw [List.getD_eq_getElem?_getD, List.getD_eq_getElem?_getD]
  by_cases h : y = x
  · subst h
    rw [if_pos rfl, List.getElem?_set_self hx2, List.getD_eq_getElem?_getD]
    rfl
  · rw [if_neg h, List.getElem?_set_ne (by omega), Rat.add_zero, List.getD_eq_getElem?_getD]
theorem sumOver_addRow {l : Rat} {row : List Rat} {x : Int} (hx : 0 ≤ x) (hx2 : x.toNat < row.length) : ∀ {xs : List Int}, xs.Nodup → (∀ y ∈ xs, 0 ≤ y) → sumOver (addRow l row x) xs = sumOver row xs + if x ∈ xs then l else 0
  | [], _, _ => by
    show (0 : Rat) = 0 + _
    simp [Rat.add_zero]
  | y :: xs, hn, h0 => by
    have ih := sumOver_addRow (l := l) hx hx2 (xs := xs) (List.nodup_cons.mp hn).2 fun z hz => h0 z (List.mem_cons_of_mem _ hz)
    have e1 : sumOver (addRow l row x) (y :: xs) = leftAt (addRow l row x) y + sumOver (addRow l row x) xs := rfl
    have e2 : sumOver row (y :: xs) = leftAt row y + sumOver row xs := rfl
    rw [e1, e2, ih, leftAt_addRow hx hx2 (h0 y (List.mem_cons_self ..))]
    by_cases h : y = x
    · subst h
      rw [if_pos rfl, if_neg (List.nodup_cons.mp hn).1, if_pos (List.mem_cons_self ..)]
      grind
    · rw [if_neg h]
      by_cases h2 : x ∈ xs
      · rw [if_pos h2, if_pos (List.mem_cons_of_mem _ h2)]
        grind
      · rw [if_neg h2, if_neg (by
          intro z
          rcases List.mem_cons.mp z with z | z
          · exact h z.symm
          · exact h2 z)]
        grind
theorem eats1_first {left : List Rat} : ∀ {o : List Int} {k : Nat} {y : Int}, y ∈ o.take k → (y = left.length ∨ leftAt left y ≠ 0) → eats1 left o ∈ o.take k
  | [], k, y, h, _ => by simp at h
  | x :: o, 0, y, h, _ => by simp at h
  | x :: o, k + 1, y, h, hy => by
    rw [List.take_succ_cons] at h ⊢
    rw [eats1]
    split
    · exact List.mem_cons_self ..
    · rename_i hx
      rcases List.mem_cons.mp h with e | h
      · rw [e] at hy
        exact absurd hy hx
      · exact List.mem_cons_of_mem _ (eats1_first h hy)
theorem eats1_pass {left : List Rat} {o : List Int} (h : ∀ x ∈ o, 0 ≤ x ∧ x ≤ (left.length : Int)) : eats1 left o = left.length ∨ leftAt left (eats1 left o) ≠ 0 := by
  obtain ⟨h1, h2, h3⟩ := eats1_spec h
  by_cases e : eats1 left o = left.length
  · exact .inl e
  · exact .inr (h3 (by omega))
def NoEnvy (fo : List (List Int)) (shares : List (List Rat)) : Prop := ∀ (i j : Nat) ri rj fi, shares[i]? = some ri → shares[j]? = some rj → fo[i]? = some fi → ∀ k, sumOver rj (fi.take k) ≤ sumOver ri (fi.take k)
theorem fullO_nodup {n : Nat} {o : List Int} (h : o.Nodup) (g : ∀ x ∈ o, 0 ≤ x ∧ x < (n : Int)) : (fullO n o).Nodup := by
  unfold fullO
  rw [List.append_assoc]
  refine List.nodup_append.mpr ⟨h, ?_, fun a ha b hb => ?_⟩
  · rw [List.singleton_append]
    refine List.nodup_cons.mpr ⟨fun z => ?_, (rng_nodup n).sublist (List.filter_sublist ..)⟩
    have := rng_mem.mp (List.mem_filter.mp z).1
    omega
  · intro e
    subst e
    rcases List.mem_append.mp hb with hb | hb
    · have := List.mem_singleton.mp hb
      have := g a ha
      omega
    · have := (List.mem_filter.mp hb).2
      simp [ha] at this
theorem fullO_mem {n : Nat} {o : List Int} {x : Int} (g : ∀ x ∈ o, 0 ≤ x ∧ x < (n : Int)) : x ∈ fullO n o ↔ 0 ≤ x ∧ x ≤ (n : Int) := by
  unfold fullO
  rw [List.mem_append, List.mem_append, List.mem_singleton, List.mem_filter, rng_mem, decide_eq_true_eq]
  constructor
  · rintro ((h | h) | h)
    · have := g x h; omega
    · omega
    · omega
  · intro h
    by_cases h1 : x ∈ o
    · exact .inl (.inl h1)
    · by_cases h2 : x = n
      · exact .inl (.inr h2)
      · exact .inr ⟨by omega, h1⟩
theorem MTab.foNd {t : Table} (M : MTab t) : ∀ f ∈ fosQ t, f.Nodup := fun f hf => by
  obtain ⟨o, ho, rfl⟩ := List.mem_map.mp hf
  exact fullO_nodup (M.nd o ho) (M.os o ho)
theorem noEnvy_next {t : Table} (M : MTab t) {i : Nat} {s : MS} (I : MInv t i s) (hz : s.time ≠ 0) (N : NoEnvy (fosQ t) s.shares) : NoEnvy (fosQ t) (mnext (fosQ t) s).shares := by
  have F := M.fo
  have S := I.slen F hz
  intro a b ra rb fa ha hb hfa k
  have hE : ∀ (c : Nat) (rc : List Rat), (mnext (fosQ t) s).shares[c]? = some rc → ∃ r f, s.shares[c]? = some r ∧ (fosQ t)[c]? = some f ∧ rc = addRow (slenQ (eatenQ (fosQ t) s.left) s.left s.time) r (eats1 s.left f) := fun c rc h => by
    have h : (List.zipWith (addRow (slenQ (eatenQ (fosQ t) s.left) s.left s.time)) s.shares (eatenQ (fosQ t) s.left))[c]? = some rc := h
    rw [List.getElem?_zipWith, eatenQ, List.getElem?_map] at h
    cases h1 : s.shares[c]? with
    | none => rw [h1] at h; simp at h
    | some r =>
      cases h2 : (fosQ t)[c]? with
      | none => rw [h1, h2] at h; simp at h
      | some f =>
        rw [h1, h2] at h
        exact ⟨r, f, rfl, rfl, (Option.some.inj h).symm⟩
  obtain ⟨r1, f1, h1, hf1, rfl⟩ := hE a ra ha
  obtain ⟨r2, f2, h2, hf2, rfl⟩ := hE b rb hb
  rw [hfa] at hf1
  cases hf1
  have hm1 := List.mem_of_getElem? hfa
  have hm2 := List.mem_of_getElem? hf2
  have hl : s.left.length = t.1.length := I.ll
  have s1 := eats1_spec (left := s.left) (o := fa) (by rw [hl]; exact F.rg fa hm1)
  have s2 := eats1_spec (left := s.left) (o := f2) (by rw [hl]; exact F.rg f2 hm2)
  have hr1 := I.rl r1 (List.mem_of_getElem? h1)
  have hr2 := I.rl r2 (List.mem_of_getElem? h2)
  have hnd : (fa.take k).Nodup := (M.foNd fa hm1).sublist (List.take_sublist ..)
  have h00 : ∀ y ∈ fa.take k, 0 ≤ y := fun y hy => (F.rg fa hm1 y (List.mem_of_mem_take hy)).1
  rw [sumOver_addRow s1.1 (by omega) hnd h00, sumOver_addRow s2.1 (by omega) hnd h00]
  have hN := N a b r1 r2 fa h1 h2 hfa k
  have hp := S.pos
  have key : eats1 s.left f2 ∈ fa.take k → eats1 s.left fa ∈ fa.take k := fun h => eats1_first h (eats1_pass (by rw [hl]; exact F.rg f2 hm2))
  by_cases hm : eats1 s.left f2 ∈ fa.take k
  · rw [if_pos hm, if_pos (key hm)]
    grind
  · rw [if_neg hm]
    split <;> grind
theorem MTab.noEnvy {t : Table} (M : MTab t) : ∀ i, NoEnvy (fosQ t) (mst t i).shares
  | 0 => by
    intro a b ra rb fa ha hb _ k
    have ha : (t.2.map fun _ => List.replicate (t.1.length + 1) (0 : Rat))[a]? = some ra := ha
    have hb : (t.2.map fun _ => List.replicate (t.1.length + 1) (0 : Rat))[b]? = some rb := hb
    obtain ⟨_, _, rfl⟩ := get_map ha
    obtain ⟨_, _, rfl⟩ := get_map hb
    exact Rat.le_refl
  | i + 1 => by
    show NoEnvy _ (mstep (fosQ t) (mst t i)).shares
    unfold mstep
    split
    · exact M.noEnvy i
    · rename_i hz
      exact noEnvy_next M (M.inv i).1 hz (M.noEnvy i)
/-- the meal's rows, their sizes -/
theorem MTab.rows {t : Table} (M : MTab t) {row : List Rat} (h : row ∈ (mealQ t).shares) : row.length = t.1.length + 1 ∧ (∀ q ∈ row, OnD (60 ^ 7) q ∧ 0 ≤ q ∧ q ≤ 1) := by
  obtain ⟨I, _⟩ := M.inv (t.1.length + 1)
  refine ⟨I.rl row h, fun q hq => ⟨(I.sD row h q hq).dvd (Nat.pow_dvd_pow 60 (by have := M.n; omega)), ?_⟩⟩
  have h1 := I.s0 row h q hq
  have h2 : (mealQ t).time = 0 := M.fin
  have h2 : (mst t (t.1.length + 1)).time = 0 := h2
  rw [h2] at h1
  exact ⟨h1.1, by have := h1.2; grind⟩
theorem pow60_7 : 60 ^ 7 < 2 ^ 1990 := Nat.lt_of_lt_of_le (show 60 ^ 7 < 2 ^ 48 by decide) (Nat.pow_le_pow_right (by decide) (by decide))
theorem MTab.rowOk {t : Table} (M : MTab t) {row : List Rat} (h : row ∈ (mealQ t).shares) {o : List Int} (ho : o ∈ t.2) : RowOk (fullO t.1.length o) row := by
  obtain ⟨h1, h2⟩ := M.rows h
  refine rowOk_of h2 (by decide) pow60_7 (fun x hx => ?_) ?_
  · have := (fullO_mem (M.os o ho)).mp hx
    omega
  · have := fullO_len t.1.length o
    have := M.n
    have := nodup_le (M.nd o ho) (M.os o ho)
    omega
theorem MTab.ordLen {t : Table} (M : MTab t) {o : List Int} (ho : o ∈ t.2) : o.length ≤ 6 := Nat.le_trans (nodup_le (M.nd o ho) (M.os o ho)) M.n
theorem MTab.sharesLen {t : Table} (M : MTab t) : (mealQ t).shares.length = t.2.length := (M.inv (t.1.length + 1)).1.sl
theorem MTab.envPre {t : Table} (M : MTab t) {i j : Nat} {ri rj : List Rat} {o : List Int} (hi : (mealQ t).shares[i]? = some ri) (hj : (mealQ t).shares[j]? = some rj) (ho : t.2[i]? = some o) : ∀ (k : Nat) a b, (sumsQ (fullO t.1.length o) ri)[k]? = some a → (sumsQ (fullO t.1.length o) rj)[k]? = some b → ¬ a < b := fun k a b ha hb => by
  have hfo : (fosQ t)[i]? = some (fullO t.1.length o) := by rw [fosQ, List.getElem?_map, ho]; rfl
  have h := M.noEnvy (t.1.length + 1) i j ri rj _ hi hj hfo (k + 1)
  have hk : k < (fullO t.1.length o).length := by
    have := (List.getElem?_eq_some_iff.mp ha).1
    unfold sumsQ at this
    rwa [sumsTo_len] at this
  unfold sumsQ at ha hb
  rw [sumsTo_get hk] at ha hb
  cases ha
  cases hb
  exact Rat.not_lt.mpr h
theorem MTab.envy0 {t : Table} (M : MTab t) : envyQ (fosQ t) (mealQ t).shares (mealQ t).shares.length = [] := by
  unfold envyQ
  rw [List.flatMap_eq_nil_iff]
  intro i hi
  have hi := List.mem_range.mp hi
  unfold envyRow
  rw [List.filterMap_eq_nil_iff]
  intro j hj
  have hj := List.mem_range.mp hj
  have hl := M.sharesLen
  obtain ⟨o, ho⟩ : ∃ o, t.2[i]? = some o := ⟨_, List.getElem?_eq_getElem (by omega)⟩
  have hfo : (fosQ t).getD i [] = fullO t.1.length o := by
    rw [List.getD_eq_getElem?_getD, fosQ, List.getElem?_map, ho]
    rfl
  have e1 : (mealQ t).shares[i]? = some ((mealQ t).shares.getD i []) := by rw [List.getD_eq_getElem?_getD, List.getElem?_eq_getElem hi]; rfl
  have e2 : (mealQ t).shares[j]? = some ((mealQ t).shares.getD j []) := by rw [List.getD_eq_getElem?_getD, List.getElem?_eq_getElem hj]; rfl
  have h0 := firstMore_none (s := 0) (M.envPre e1 e2 ho)
  rw [hfo, if_neg (by rw [h0]; exact Nat.lt_irrefl 0)]
end DL
namespace DL
open PySem PySem.Spec PyProof.Rows L2
/-! ### drawn deals and their mix -/
structure DealQ (cs : List Int) (a : Nat) (dl : List Int) : Prop where
  len : dl.length = a
  rg : ∀ x ∈ dl, 0 ≤ x ∧ x ≤ (cs.length : Int)
  ct : ∀ k : Nat, k < cs.length → (dl.count (k : Int) : Int) ≤ cs.getD k 0
/-- while it is dealt -/
structure DInv (cs : List Int) (a : Nat) (left dl : List Int) : Prop where
  ll : left.length = cs.length
  dlen : dl.length = a
  l0 : ∀ x ∈ left, 0 ≤ x ∧ x ≤ 9
  rg : ∀ x ∈ dl, 0 ≤ x ∧ x ≤ (cs.length : Int)
  ct : ∀ k : Nat, k < cs.length → left.getD k 0 + (dl.count (k : Int) : Int) ≤ cs.getD k 0
theorem DInv.deal {cs : List Int} {a : Nat} {left dl : List Int} (I : DInv cs a left dl) : DealQ cs a dl := ⟨I.dlen, I.rg, fun k hk => by
  have h := I.ct k hk
  have := (I.l0 _ (mem_getD (xs := left) (k := k) (by rw [I.ll]; exact hk))).1
  omega⟩
theorem count_set_le {l : List Int} {i : Nat} {v x : Int} : (l.set i v).count x ≤ l.count x + if v = x then 1 else 0 := by
  induction l generalizing i with
  | nil => simp
  | cons a l ih =>
    cases i with
    | zero =>
      rw [List.set_cons_zero, List.count_cons, List.count_cons]
      by_cases h : v = x
      · subst h; simp
      · simp [h]
    | succ i =>
      rw [List.set_cons_succ, List.count_cons, List.count_cons]
      have := ih (i := i)
      omega
theorem mem_set_or {l : List Int} {i : Nat} {v x : Int} (h : x ∈ l.set i v) : x ∈ l ∨ x = v := List.mem_or_eq_of_mem_set h
theorem DInv.start {cs : List Int} {a : Nat} (h : ∀ x ∈ cs, 0 ≤ x ∧ x ≤ 9) : DInv cs a cs (List.replicate a (cs.length : Int)) := by
  refine ⟨rfl, List.length_replicate, h, fun x hx => ?_, fun k hk => ?_⟩
  · rw [(List.mem_replicate.mp hx).2]
    omega
  · rw [List.count_replicate]
    have : (((cs.length : Nat) : Int) == (k : Int)) = false := beq_eq_false_iff_ne.mpr (by omega)
    rw [this]
    simp
theorem DInv.step {cs : List Int} {a : Nat} {left dl : List Int} (I : DInv cs a left dl) {x i : Nat} (hx : x < cs.length) (hl : 0 < left.getD x 0) : DInv cs a (left.set x (left.getD x 0 - 1)) (dl.set i (x : Int)) := by
  have hxl : x < left.length := by rw [I.ll]; exact hx
  refine ⟨by rw [List.length_set, I.ll], by rw [List.length_set, I.dlen], fun y hy => ?_, fun y hy => ?_, fun k hk => ?_⟩
  · rcases mem_set_or hy with h | h
    · exact I.l0 y h
    · have := I.l0 _ (mem_getD hxl)
      omega
  · rcases mem_set_or hy with h | h
    · exact I.rg y h
    · omega
  · have h1 := I.ct k hk
    have h2 := count_set_le (l := dl) (i := i) (v := (x : Int)) (x := (k : Int))
    by_cases h : k = x
    · subst h
      rw [if_pos rfl] at h2
      have e : (left.set k (left.getD k 0 - 1)).getD k 0 = left.getD k 0 - 1 := by
        rw [List.getD_eq_getElem?_getD, List.getElem?_set_self hxl]
        rfl
      rw [e]
      omega
    · rw [if_neg (by omega)] at h2
      have e : (left.set x (left.getD x 0 - 1)).getD k 0 = left.getD k 0 := by
        rw [List.getD_eq_getElem?_getD, List.getElem?_set_ne (by omega), List.getD_eq_getElem?_getD]
      rw [e]
      omega
def drawnTop (ws : List Int) (dls : List (List Int)) (i : Nat) (x : Int) : Int := (((ws.zip dls).filter fun p => decide (p.2.getD i 0 = x)).map (·.1)).sum
def drawnQ (ws : List Int) (dls : List (List Int)) (a n : Nat) : List (List Rat) := (List.range a).map fun i => (List.range (n + 1)).map fun (x : Nat) => Rat.divInt (drawnTop ws dls i (x : Int)) ws.sum
theorem zipD_maps {α β : Type} (f : α → PyData) (g : β → PyData) (xs : List α) (ys : List β) : zipD (xs.map f) (ys.map g) = (xs.zip ys).map fun p => PyData.tuple [f p.1, g p.2] := by
  unfold zipD
  rw [List.zip_map, List.map_map]
  rfl
structure Drawn (cs : List Int) (a : Nat) (ws : List Int) (dls : List (List Int)) : Prop where
  len : ws.length = dls.length
  pos : 1 ≤ ws.length
  few : ws.length ≤ 6
  w : ∀ w ∈ ws, 1 ≤ w ∧ w ≤ 10000000000000000000000000000000000000000000000000000000000000000000000000000000000000000000000000000000000000000000000000000000000
  dl : ∀ d ∈ dls, DealQ cs a d
theorem sum_bds {ws : List Int} (h : ∀ w ∈ ws, 1 ≤ w ∧ w ≤ 10000000000000000000000000000000000000000000000000000000000000000000000000000000000000000000000000000000000000000000000000000000000) : (ws.length : Int) ≤ ws.sum ∧ ws.sum ≤ 10000000000000000000000000000000000000000000000000000000000000000000000000000000000000000000000000000000000000000000000000000000000 * ws.length := by
  induction ws with
  | nil => simp
  | cons a r ih =>
    have ha := h a (List.mem_cons_self ..)
    have hr := ih fun p hp => h p (List.mem_cons_of_mem _ hp)
    rw [List.sum_cons, List.length_cons]
    omega
theorem drawnTop_bd {cs : List Int} {a : Nat} {ws : List Int} {dls : List (List Int)} (D : Drawn cs a ws dls) (i : Nat) (x : Int) : 0 ≤ drawnTop ws dls i x ∧ drawnTop ws dls i x ≤ ws.sum := by
  have key : ∀ zs : List (Int × List Int), (∀ z ∈ zs, 1 ≤ z.1) → 0 ≤ ((zs.filter fun p => decide (p.2.getD i 0 = x)).map (·.1)).sum ∧ ((zs.filter fun p => decide (p.2.getD i 0 = x)).map (·.1)).sum ≤ (zs.map (·.1)).sum := by
    intro zs h
    induction zs with
    | nil => simp
    | cons z zs ih =>
      have h1 := h z (List.mem_cons_self ..)
      have h2 := ih fun y hy => h y (List.mem_cons_of_mem _ hy)
      rw [List.filter_cons, List.map_cons, List.sum_cons]
      split
      · rw [List.map_cons, List.sum_cons]
        omega
      · omega
  have h := key (ws.zip dls) fun z hz => (D.w z.1 (List.of_mem_zip hz).1).1
  rw [List.map_fst_zip (by rw [D.len]; exact Nat.le_refl _)] at h
  exact h
end DL
namespace DL
open PySem PySem.Spec PyProof.Rows L2
theorem divInt_mul {z W : Int} (h : 0 < W) : Rat.divInt z W * (W : Rat) = z := by
  have h0 : (W : Rat) ≠ 0 := by
    have := Rat.intCast_pos.mpr h
    grind
  rw [Rat.divInt_eq_div, Rat.div_mul_cancel h0]
theorem Drawn.entry {cs : List Int} {a : Nat} {ws : List Int} {dls : List (List Int)} (D : Drawn cs a ws dls) (i : Nat) (x : Int) : OnD ws.sum.toNat (Rat.divInt (drawnTop ws dls i x) ws.sum) ∧ 0 ≤ Rat.divInt (drawnTop ws dls i x) ws.sum ∧ Rat.divInt (drawnTop ws dls i x) ws.sum ≤ 1 := by
  have hs := sum_bds D.w
  have hp := D.pos
  have ht := drawnTop_bd D i x
  have hW : 0 < ws.sum := by omega
  have hm := divInt_mul (z := drawnTop ws dls i x) hW
  have hWr : (0 : Rat) < (ws.sum : Rat) := Rat.intCast_pos.mpr hW
  refine ⟨⟨drawnTop ws dls i x, ?_⟩, Rat.divInt_nonneg ht.1 (by omega), ?_⟩
  · have : ((ws.sum.toNat : Nat) : Rat) = ((ws.sum : Int) : Rat) := by
      rw [← Rat.intCast_natCast, Int.toNat_of_nonneg (by omega)]
    rw [this, hm]
  · refine Rat.le_of_mul_le_mul_right (c := (ws.sum : Rat)) ?_ hWr
    rw [hm, Rat.one_mul]
    exact Rat.intCast_le_intCast.mpr ht.2
theorem Drawn.bot {cs : List Int} {a : Nat} {ws : List Int} {dls : List (List Int)} (D : Drawn cs a ws dls) : 0 < ws.sum.toNat ∧ ws.sum.toNat < 2 ^ 440 := by
  have hs := sum_bds D.w
  have hp := D.pos
  have hf := D.few
  omega
theorem Drawn.row {cs : List Int} {a : Nat} {ws : List Int} {dls : List (List Int)} (D : Drawn cs a ws dls) {row : List Rat} (h : row ∈ drawnQ ws dls a cs.length) : row.length = cs.length + 1 ∧ ∀ q ∈ row, OnD ws.sum.toNat q ∧ 0 ≤ q ∧ q ≤ 1 := by
  obtain ⟨i, _, rfl⟩ := List.mem_map.mp h
  refine ⟨by rw [List.length_map, List.length_range], fun q hq => ?_⟩
  obtain ⟨x, _, rfl⟩ := List.mem_map.mp hq
  exact D.entry i x
theorem drawnQ_len (ws : List Int) (dls : List (List Int)) (a n : Nat) : (drawnQ ws dls a n).length = a := by
  unfold drawnQ
  rw [List.length_map, List.length_range]
theorem rowOk_gen {W : Nat} {n : Nat} {row : List Rat} (hl : row.length = n + 1) (h : ∀ q ∈ row, OnD W q ∧ 0 ≤ q ∧ q ≤ 1) (w0 : 0 < W) (hw : W < 2 ^ 1990) {o : List Int} (ho : OrdQ n o) (hn : n ≤ 6) : RowOk (fullO n o) row := by
  refine rowOk_of h w0 hw (fun x hx => ?_) ?_
  · have := (fullO_mem ho.rg).mp hx
    omega
  · have := fullO_len n o
    have := ho.len
    omega
theorem Drawn.rowOk {cs : List Int} {a : Nat} {ws : List Int} {dls : List (List Int)} (D : Drawn cs a ws dls) (hn : cs.length ≤ 6) {row : List Rat} (h : row ∈ drawnQ ws dls a cs.length) {o : List Int} (ho : OrdQ cs.length o) : RowOk (fullO cs.length o) row := by
  obtain ⟨h1, h2⟩ := D.row h
  exact rowOk_gen h1 h2 D.bot.1 (Nat.lt_of_lt_of_le D.bot.2 (Nat.pow_le_pow_right (by decide) (by decide))) ho hn
theorem firstMore_filter {m t : List Rat} (hl : m.length = t.length) : firstMoreQ m t 0 = match (List.range m.length).filter (fun k => decide (m.getD k 0 < t.getD k 0)) with | [] => 0 | k :: _ => k + 1 := by
  have get : ∀ {l : List Rat} {k : Nat}, k < l.length → l[k]? = some (l.getD k 0) := fun {l k} h => by rw [List.getD_eq_getElem?_getD, List.getElem?_eq_getElem h]; rfl
  cases hf : (List.range m.length).filter (fun k => decide (m.getD k 0 < t.getD k 0)) with
  | nil =>
    refine firstMore_none fun j a b ha hb z => ?_
    have hj := (List.getElem?_eq_some_iff.mp ha).1
    have : j ∈ (List.range m.length).filter (fun k => decide (m.getD k 0 < t.getD k 0)) := List.mem_filter.mpr ⟨List.mem_range.mpr hj, decide_eq_true (by
      rw [get hj] at ha
      rw [get (by omega)] at hb
      cases ha
      cases hb
      exact z)⟩
    rw [hf] at this
    cases this
  | cons k r =>
    have hk : k ∈ (List.range m.length).filter (fun k => decide (m.getD k 0 < t.getD k 0)) := by rw [hf]; exact List.mem_cons_self ..
    obtain ⟨hk1, hk2⟩ := List.mem_filter.mp hk
    have hk1 := List.mem_range.mp hk1
    have hk2 := of_decide_eq_true hk2
    have h := firstMore_at (s := 0) (get hk1) (get (l := t) (k := k) (by omega)) hk2 fun j hj a b ha hb z => by
      have hjm : j ∈ (List.range m.length).filter (fun k => decide (m.getD k 0 < t.getD k 0)) := List.mem_filter.mpr ⟨List.mem_range.mpr (by omega), decide_eq_true (by
        rw [get (by omega)] at ha
        rw [get (by omega)] at hb
        cases ha
        cases hb
        exact z)⟩
      have hs : ((List.range m.length).filter (fun k => decide (m.getD k 0 < t.getD k 0))).Pairwise (· < ·) := List.pairwise_lt_range.sublist (List.filter_sublist ..)
      rw [hf] at hs hjm
      rcases List.mem_cons.mp hjm with e | hjm
      · omega
      · have := (List.pairwise_cons.mp hs).1 j hjm
        omega
    rw [h]
    show 0 + k + 1 = k + 1
    omega
structure TabQ (cs : List Int) (os : List (List Int)) : Prop where
  n : cs.length ≤ 6
  a1 : 1 ≤ os.length
  a : os.length ≤ 6
  c : ∀ c ∈ cs, 0 ≤ c ∧ c ≤ 9
  o : ∀ o ∈ os, OrdQ cs.length o
theorem TabQ.m {cs : List Int} {os : List (List Int)} (Q : TabQ cs os) : MTab (cs, os) := ⟨Q.n, Q.a, Q.c, fun o ho => (Q.o o ho).nd, fun o ho => (Q.o o ho).rg⟩
theorem nums_inj {xs ys : List Int} (h : numsD xs = numsD ys) : xs = ys := by
  rw [numsD, numsD, PyData.list.injEq] at h
  exact (List.map_inj_right (fun a b h => PyData.int.inj h)).mp h
theorem rows_inj {xs ys : List (List Int)} (h : rowsD xs = rowsD ys) : xs = ys := by
  rw [rowsD, rowsD, PyData.list.injEq] at h
  exact (List.map_inj_right (fun a b h => nums_inj h)).mp h
theorem pl_trip (x : Int × Int × Int) : Pl 50 (tripD x) := pl_tup (n := 49) fun y hy => by
  rcases List.mem_cons.mp hy with rfl | hy
  · exact pl_int
  · rcases List.mem_cons.mp hy with rfl | hy
    · exact pl_int
    · rcases List.mem_cons.mp hy with rfl | hy
      · exact pl_int
      · cases hy
theorem pl_tab (t : Table) : Pl 60 (tabD t) := pl_tup (n := 59) fun x hx => by
  rcases List.mem_cons.mp hx with rfl | hx
  · exact pl_ints
  · rcases List.mem_cons.mp hx with rfl | hx
    · exact pl_map (n := 58) fun o _ => pl_ints
    · cases hx
theorem pl_shares (sh : List (List Rat)) : Pl 60 (sharesD sh) := pl_map (n := 59) fun row _ => pl_map (n := 58) fun q _ => pl_fr (p := (q.num, ((q.den : Nat) : Int)))
end DL
namespace DL
open PySem PySem.Spec PyProof.Rows L2
theorem lfs_frs : ∀ (qs : List Rat), lfs (qs.map frQ) = true
  | [] => rfl
  | _ :: qs => lfs_frs qs
end DL
namespace DL
open PySem PySem.Spec PyProof.Rows L2
/-! ### comprehensions by a relation -/
inductive RelL {α : Type} (G : α → PyData → Prop) : List α → List PyData → Prop
  | nil : RelL G [] []
  | cons {a : α} {as : List α} {d : PyData} {ds : List PyData} : G a d → RelL G as ds → RelL G (a :: as) (d :: ds)
theorem RelL.len {α : Type} {G : α → PyData → Prop} : ∀ {as : List α} {ds : List PyData}, RelL G as ds → ds.length = as.length
  | _, _, .nil => rfl
  | _, _, .cons _ h => congrArg Nat.succ h.len
theorem RelL.snoc {α : Type} {G : α → PyData → Prop} : ∀ {as : List α} {ds : List PyData} {a : α} {d : PyData}, RelL G as ds → G a d → RelL G (as ++ [a]) (ds ++ [d])
  | _, _, _, _, .nil, h => .cons h .nil
  | _, _, _, _, .cons g r, h => .cons g (r.snoc h)
/-- all by one encoding -/
theorem RelL.enc {α β : Type} {G : α → PyData → Prop} {f : β → PyData} {P : β → Prop} (k : ∀ a d, G a d → ∃ b, d = f b ∧ P b) : ∀ {as : List α} {ds : List PyData}, RelL G as ds → ∃ bs : List β, ds = bs.map f ∧ bs.length = as.length ∧ ∀ b ∈ bs, P b
  | _, _, .nil => ⟨[], rfl, rfl, fun b hb => (nomatch hb)⟩
  | _, _, .cons g r => by
    obtain ⟨b, rfl, hb⟩ := k _ _ g
    obtain ⟨bs, rfl, h1, h2⟩ := r.enc k
    refine ⟨b :: bs, rfl, congrArg Nat.succ h1, fun x hx => ?_⟩
    rcases List.mem_cons.mp hx with e | hx
    · rw [e]; exact hb
    · exact h2 x hx
section
variable {X : Cx} {ρ : DEnv} {tg iter elt c : Expr} {pos p : Pos} {scope : Scope} {own : List (Str × Nat)} {α : Type}
theorem lc_okN {ifs : List Expr} {tt : TT} {R0 : TE} (t : Tgt) (xs : List α) (enc : α → PyData) (parts : α → List PyData) (keep : α → Bool) (G : α → PyData → Prop) (hz : xs.length ≤ sizeLine) (hin : ∀ i ∈ t.all, i ∈ own.map (·.2)) (tt_mono : ∀ {σ : L2.St} {H : Hp} {Q Q' : Bool → Hp → Prop}, tt σ H Q → (∀ b H', Q b H' → Q' b H') → tt σ H Q')
    (hi : RI X tg iter (frzE ρ) fun items => items = xs.map enc) (hp : ∀ a ∈ xs, t.parts (enc a) = some (parts a))
    (htst : ∀ a ∈ xs, ∀ (U : Addr → Prop) (σ : L2.St) (H : Hp), MutU U H → EnvR X.K U (setD (wipeE (frzE ρ) (own.map (·.2))) t.all (parts a)) σ H → tt σ H fun b H' => Same H H' ∧ b = keep a)
    (hb : ∀ a ∈ xs, keep a = true → ForB X scope fun Y => RD Y elt (setD (wipeE (frzE ρ) (own.map (·.2))) t.all (parts a)) fun o => ∃ d, G a d ∧ owd (setD (wipeE (frzE ρ) (own.map (·.2))) t.all (parts a)) o d)
    (mk : ∀ {wi : TI} {te : TE}, PI X tg iter wi → (ForB X scope fun Y => PE Y elt te) → (∀ {σ : L2.St} {H : Hp} {Q : VK}, tLc wi (tgR X.K t) tt te (own.map (·.2)) σ H Q → R0 σ H Q))
    {U : Addr → Prop} {σ : L2.St} {H : Hp} {Q : VK} (m : MutU U H) (E : EnvR X.K U ρ σ H) (q : ∀ v H' ds, RelL G (xs.filter keep) ds → Same H H' → ResR X.K U ρ σ H H' v (.ow (.list ds)) → Q v H') : R0 σ H Q := by
  have E0 : EnvR X.K (fun _ => False) (frzE ρ) σ H := envR_frz E fun b o e => hide_some.mpr ⟨fun z => z, e⟩
  obtain ⟨wi, hwi, h1⟩ := hi (fun _ => False) σ H (fun a z => z.elim) E0
  let te : TE := fun σ H' Q => ForB X scope fun Y => WE Y elt σ H' Q
  have pi' : PI X tg iter (fun σ' H' R => σ' = σ ∧ H' = H ∧ ∀ J H1, (Same H H1 ∧ ∃ items SP0, SP0 (Hide H1 fun _ => False) ∧ WalkD X.K J SP0 items ∧ items = xs.map enc) → R J H1) := by
    refine ⟨fun pins s σ' H' R I hh => ?_⟩
    obtain ⟨e1, e2, hR⟩ := hh
    subst e1 e2
    have z := hwi.run pins s _ _ _ I h1
    refine thn z fun v s1 z1 => thn z1 fun itv s2 ⟨it, fp, tn, J, H', a1, a2, a3, a4, a5, a6⟩ => ⟨it, fp, tn, J, H', a1, a2, a3, a4, a5, hR J H' a6⟩
  refine mk (te := te) pi' (fun s H C cl fp => ⟨fun pins s' σ H' Q I h => h s H C cl fp pins s' I⟩) ⟨rfl, rfl, fun J H1 ⟨e1, items, SP0, hSt, W, ei⟩ D hD => ?_⟩
  subst ei
  have hlen : (xs.map enc).length = xs.length := List.length_map _
  let UD : Addr → Prop := fun a => a = D
  have sD : Same H1 (Hide (upd H1 D (.lst [])) UD) := fun b o e => by
    have nb : b ≠ D := ne_of_none e hD
    exact hide_some.mpr ⟨nb, by rw [upd_ne nb]; exact e⟩
  let Pv : Nat → Hp → Prop := fun i H' => ∃ acc S ds, H' D = some (.lst acc) ∧ RelL G ((xs.take i).filter keep) ds ∧ OwnAll X.K H' acc ds S ∧ S.Nodup ∧ (∀ a ∈ S, H1 a = none ∧ a ≠ D) ∧ Same H1 (Hide H' UD)
  refine ⟨fun i m H' => m = xs.length - i ∧ i ≤ xs.length ∧ Pv i H', ⟨xs.length, by simp, Nat.zero_le _, [], [], [], upd_same, .nil, .nil, .nil, (fun a z => by cases z), sD⟩, ?_⟩
  rintro i m' H2 ⟨rfl, hi', acc, S, ds, hDa, hRl, hO, hn, hf, hs2⟩
  have mD : MutU UD H2 := fun a z => by
    have z' : a = D := z
    rw [z', hDa]
    trivial
  have sHide : Same (Hide H1 fun _ => False) (Hide H2 UD) := fun b o e => hs2 b o (hide_some.mp e).2
  have hSt2 := W.mono sHide hSt
  by_cases hlt : i < xs.length
  · have hx : xs[i]? = some xs[i] := List.getElem?_eq_getElem hlt
    have hmem : xs[i] ∈ xs := List.getElem_mem hlt
    have htk : xs.take (i + 1) = xs.take i ++ [xs[i]] := by rw [List.take_add_one, hx]; rfl
    refine .inr ⟨W.go hSt2 hide_sub (by rw [hlen]; exact hlt), fun H' => Pv (i + 1) H', fun H' p' => ⟨xs.length - (i + 1), by omega, rfl, hlt, p'⟩, fun x H3 hy => ?_⟩
    obtain ⟨s23, d, G', hd, sG, sG', hfr, hpx⟩ := W.yld hSt2 hide_sub (by rw [hlen]; exact hlt) hy
    rw [List.getElem?_map, hx] at hd
    have hd' : enc xs[i] = d := Option.some.inj hd
    subst hd'
    have hDa3 := s23 _ _ hDa
    have m3 : MutU UD H3 := mD.mono s23
    have sG3 : Same G' (Hide H3 UD) := fun b o e => by
      refine hide_some.mpr ⟨fun z => ?_, sG' b o e⟩
      have z' : b = D := z
      have h9 := hfr b o e (hide_none z)
      rw [z', hDa] at h9
      cases h9
    have hs3 : Same H1 (Hide H3 UD) := fun b o e => by
      obtain ⟨n1, n2⟩ := hide_some.mp (hs2 b o e)
      exact hide_some.mpr ⟨n1, s23 b o n2⟩
    refine tgR_run (G := G') sG' hpx (hp _ hmem) fun vs hvs hvl => ?_
    have e3 : EnvR X.K UD (setD (wipeE (frzE ρ) (own.map (·.2))) t.all (parts xs[i])) (setS (wipe σ (own.map (·.2))) t.all vs) H3 := by
      refine envR_setS _ _ _ (envR_wipe (envR_frz E fun b o e => hs3 b o (e1 b o e)) _ fun i j p => frz_noal) (noAl_wipe (fun i j p => frz_noal) _) (dps_sub sG3 _ _ hvs)
    refine ⟨by rw [wipe_setS _ _ _ hin, wipe_wipe _ fun _ z => z], ?_⟩
    have main : ∀ b H4, (Same H3 H4 ∧ b = keep xs[i]) → if b = true then te (setS (wipe σ (own.map (·.2))) t.all vs) H4 fun y H5 => ∃ acc, H5 D = some (.lst acc) ∧ acc.length < sizeLine ∧ Pv (i + 1) (upd H5 D (.lst (acc ++ [y]))) else Pv (i + 1) H4 := fun b H4 ⟨s34, eb⟩ => by
      have hDa4 := s34 _ _ hDa3
      have hs4 : Same H1 (Hide H4 UD) := fun b o e => by
        obtain ⟨n1, n2⟩ := hide_some.mp (hs3 b o e)
        exact hide_some.mpr ⟨n1, s34 b o n2⟩
      have hO4 := owns_same (s23.trans s34) hO
      subst eb
      cases hk : keep xs[i] with
      | true =>
        refine iteT ?_
        intro s0 H0 C cl fp
        refine we_mono (hb _ hmem hk s0 H0 C cl fp UD _ H4 (m3.mono s34) (envR_same e3 s34)) fun y H5 ⟨s45, o, r, dd, hG, ho⟩ => ?_
        obtain ⟨T, oT, nT, fT⟩ := owd_own (envR_same e3 s34) s45 r ho
        have hDa5 := s45 _ _ hDa4
        have hlacc : acc.length ≤ i := by
          rw [owns_len hO, hRl.len]
          exact Nat.le_trans (List.length_filter_le _ _) (by rw [List.length_take]; omega)
        refine ⟨acc, hDa5, by omega, ?_⟩
        have hTD : ∀ a ∈ T, a ≠ D := fun a z e => by
          subst e
          rw [fT _ z] at hDa4
          cases hDa4
        have up : ∀ a, a ≠ D → (upd H5 D (.lst (acc ++ [y]))) a = H5 a := fun a n => upd_ne n
        have ut : Tups H5 (upd H5 D (.lst (acc ++ [y]))) := upd_tups (by rw [hDa5]; trivial)
        have ut2 : ∀ a xs', H5 a = some (.tup xs') → (upd H5 D (.lst (acc ++ [y]))) a = some (.tup xs') := fun a xs' e => by
          have n : a ≠ D := fun z => by
            rw [z, hDa5] at e
            cases e
          rw [up a n]
          exact e
        have hOall := owns_mono ut ut2 _ _ _ (owns_snoc (owns_same s45 hO4) oT) fun a ha o e => by
          have n : a ≠ D := by
            rcases List.mem_append.mp ha with z | z
            · exact (hf a z).2
            · exact hTD a z
          rw [up a n]
          exact e
        have key : RelL G ((xs.take (i + 1)).filter keep) (ds ++ [dd]) := by
          rw [htk, List.filter_append]
          have e1 : List.filter keep [xs[i]] = [xs[i]] := by
            rw [List.filter_cons, if_pos hk]
            rfl
          rw [e1]
          exact hRl.snoc hG
        refine ⟨acc ++ [y], S ++ T, ds ++ [dd], upd_same, key, hOall, ?_, ?_, ?_⟩
        · rw [List.nodup_append]
          refine ⟨hn, nT, fun a ha b hb z => ?_⟩
          subst z
          obtain ⟨ws, hws⟩ := owns_mem _ _ _ hO4 a ha
          rw [fT a hb] at hws
          cases hws
        · intro a ha
          rcases List.mem_append.mp ha with z | z
          · exact hf a z
          · refine ⟨?_, hTD a z⟩
            cases e : H1 a with
            | none => rfl
            | some o' =>
              have := (hide_some.mp (hs4 a o' e)).2
              rw [fT a z] at this
              cases this
        · intro b o e
          obtain ⟨n1, n2⟩ := hide_some.mp (hs4 b o e)
          refine hide_some.mpr ⟨n1, ?_⟩
          rw [up b n1]
          exact s45 b o n2
      | false =>
        refine iteF ⟨acc, S, ds, hDa4, ?_, hO4, hn, hf, hs4⟩
        rw [htk, List.filter_append, List.filter_cons, if_neg (by rw [hk]; exact Bool.false_ne_true)]
        simpa using hRl
    have ht0 := htst _ hmem UD _ H3 m3 e3
    exact tt_mono ht0 main
  · have e : i = xs.length := by omega
    subst e
    refine .inl ⟨W.stop hSt2 hide_sub (by rw [hlen]; exact Nat.le_refl _), q _ _ ds (by rw [List.take_length] at hRl; exact hRl) ?_ ?_⟩
    · exact fun b o e => (hide_some.mp (hs2 b o (e1 b o e))).2
    · refine ⟨D :: S, .lst hDa hO, List.nodup_cons.mpr ⟨fun z => (hf D z).2 rfl, hn⟩, fun a z => ?_⟩
      rcases List.mem_cons.mp z with z | z
      · subst z
        exact e1.free hD
      · exact e1.free (hf a z).1
theorem rd_lcN {Q : DE → Prop} (t : Tgt) (xs : List α) (enc : α → PyData) (parts : α → List PyData) (G : α → PyData → Prop) (hc : X.calm = true) (hN : X.N.Nodup) (ok : BlkOk X.N X.env.scope scope own) (hg : ForB X scope fun Y => PG Y tg (tgR X.K t))
    (hi : RI X tg iter (frzE ρ) fun items => items = xs.map enc) (hz : xs.length ≤ sizeLine) (hp : ∀ a ∈ xs, t.parts (enc a) = some (parts a))
    (hb : ∀ a ∈ xs, ForB X scope fun Y => RD Y elt (setD (wipeE (frzE ρ) (own.map (·.2))) t.all (parts a)) fun o => ∃ d, G a d ∧ owd (setD (wipeE (frzE ρ) (own.map (·.2))) t.all (parts a)) o d)
    (q : ∀ ds, RelL G xs ds → Q (.ow (.list ds))) (hin : ∀ i ∈ t.all, i ∈ own.map (·.2) := by decide) (hs : ∀ x, foldedSetIterable iter X.env x = pure x := by intro _; rfl) : RD X (.ListComp elt [⟨tg, iter, [], 0⟩] scope pos) ρ Q := fun U σ H m E =>
  lc_okN (ifs := []) (tt := tYes) (R0 := WE X _) t xs enc parts (fun _ => true) G hz hin (fun h k => k _ _ h) hi hp (fun a ha U σ H m E => ⟨Same.refl _, rfl⟩) (fun a ha _ => hb a ha)
    (fun {wi te} hi he {σ H Q} h => we_of (pe_lc hc hN hi ok hg (fun s H C cl fp => pts_nil) he hs) h) m E (fun v H' ds hr s r => ⟨s, _, r, q ds (by rw [List.filter_eq_self.mpr fun _ _ => rfl] at hr; exact hr)⟩)
end
section
variable {X : Cx} {α : Type} {ρ : DEnv} {D : DEnds} {elt tg iter c : Expr} {scope : Scope} {own : List (Str × Nat)} {pos spos py : Pos} {y : Str}
theorem s_lcGN (i : Nat) (t : Tgt) (xs : List α) (enc : α → PyData) (parts : α → List PyData) (keep : α → Bool) (G : α → PyData → Prop) {ifs : List Expr} {tt : TT} (hc : X.calm = true) (hN : X.N.Nodup) (ok : BlkOk X.N X.env.scope scope own) (hg : ForB X scope fun Y => PG Y tg (tgR X.K t))
    (hi : RI X tg iter (frzE ρ) fun items => items = xs.map enc) (hz : xs.length ≤ sizeLine) (hp : ∀ a ∈ xs, t.parts (enc a) = some (parts a)) (tt_mono : ∀ {σ : L2.St} {H : Hp} {Q Q' : Bool → Hp → Prop}, tt σ H Q → (∀ b H', Q b H' → Q' b H') → tt σ H Q')
    (htst : ∀ a ∈ xs, ∀ (U : Addr → Prop) (σ : L2.St) (H : Hp), MutU U H → EnvR X.K U (setD (wipeE (frzE ρ) (own.map (·.2))) t.all (parts a)) σ H → tt σ H fun b H' => Same H H' ∧ b = keep a)
    (hpt : ForB X scope fun Y => PTs Y ifs tt)
    (hb : ∀ a ∈ xs, keep a = true → ForB X scope fun Y => RD Y elt (setD (wipeE (frzE ρ) (own.map (·.2))) t.all (parts a)) fun o => ∃ d, G a d ∧ owd (setD (wipeE (frzE ρ) (own.map (·.2))) t.all (parts a)) o d)
    (q : ∀ ds, RelL G (xs.filter keep) ds → BindD ρ i (.ow (.list ds)) D.nx ∨ BindF ρ i (.ow (.list ds)) D.nx) (hin : ∀ i ∈ t.all, i ∈ own.map (·.2)) (hs : ∀ x, foldedSetIterable iter X.env x = pure x)
    (hy : X.N[i]? = some y) (hyl : X.env.scope.names.lookup y = some .local) (hl : Nat.blt i ρ.length = true)
    (hsw : swapsWith (.ListComp elt [⟨tg, iter, ifs, 0⟩] scope pos) (some (.Name y py)) spos.line X.env = pure true) : S1 X (.Assign [.Name y py] (.ListComp elt [⟨tg, iter, ifs, 0⟩] scope pos) spos) ρ D := fun B W σ H hW ⟨F, s⟩ => by
  have key := lc_okN (ifs := ifs) (tt := tt) (R0 := fun σ' H' Q' => ∀ D0 : Ends, Q' = (fun x H1 => gName i x σ' H1 D0.nx) → WS X (.Assign [.Name y py] (.ListComp elt [⟨tg, iter, ifs, 0⟩] scope pos) spos) D0 σ' H') t xs enc parts keep G hz hin tt_mono hi hp htst hb
    (fun {wi te} hi he {σ' H' Q'} h D0 e => by
      subst e
      exact ws_of (ps_setLc hc hN hy hyl hsw hi ok hg hpt he hs) h) (s.mut hW) s.env (Q := fun x H1 => gName i x σ H1 (toE X.K B W D).nx) (fun v H' ds hr e' r => ?_)
  · exact key _ rfl
  · rcases q ds hr with q | q
    · exact bind_ok s hW e' (Nat.blt_eq.mp hl) r q
    · exact bindF_ok s hW e' (Nat.blt_eq.mp hl) r q
theorem s_lcN (i : Nat) (t : Tgt) (xs : List α) (enc : α → PyData) (parts : α → List PyData) (G : α → PyData → Prop) (hc : X.calm = true) (hN : X.N.Nodup) (ok : BlkOk X.N X.env.scope scope own) (hg : ForB X scope fun Y => PG Y tg (tgR X.K t))
    (hi : RI X tg iter (frzE ρ) fun items => items = xs.map enc) (hz : xs.length ≤ sizeLine) (hp : ∀ a ∈ xs, t.parts (enc a) = some (parts a))
    (hb : ∀ a ∈ xs, ForB X scope fun Y => RD Y elt (setD (wipeE (frzE ρ) (own.map (·.2))) t.all (parts a)) fun o => ∃ d, G a d ∧ owd (setD (wipeE (frzE ρ) (own.map (·.2))) t.all (parts a)) o d)
    (q : (∀ ds, RelL G xs ds → D.nx (setV ρ i (.ow (.list ds)))) ∨ ∀ ds, RelL G xs ds → D.nx (setV ρ i (.fz (.list ds)))) (hin : ∀ i ∈ t.all, i ∈ own.map (·.2) := by decide) (hs : ∀ x, foldedSetIterable iter X.env x = pure x := by intro _; rfl)
    (hy : X.N[i]? = some y := by rfl) (hyl : X.env.scope.names.lookup y = some .local := by rfl) (hl : Nat.blt i ρ.length = true := by rfl) (hk : X.env.scope.kind = .function := by rfl) (hln : (py.line == pos.line) = true := by rfl) (ha : (scope.names.any fun (n, k) => n == y && (k == .local || k == .cell)) = false := by rfl) : S1 X (.Assign [.Name y py] (.ListComp elt [⟨tg, iter, [], 0⟩] scope pos) spos) ρ D :=
  s_lcGN (ifs := []) (tt := tYes) i t xs enc parts (fun _ => true) G hc hN ok hg hi hz hp (fun h k => k _ _ h) (fun a ha U σ H m E => ⟨Same.refl _, rfl⟩) (fun s H C cl fp => pts_nil) (fun a ha _ => hb a ha) (fun ds hr => by rw [List.filter_eq_self.mpr fun _ _ => rfl] at hr; exact q.imp (fun q => q ds hr) fun q => ⟨_, rfl, q ds hr⟩) hin hs hy hyl hl (sw_true hk hyl hln ha)
end
end DL
namespace DL
open PySem PySem.Spec PyProof.Rows L2
section
variable {X : Cx} {ρ : DEnv} {D : DEnds} {o : Expr} {apos cpos pos : Pos}
/-- x.clear() -/
theorem s_clear (h : RD X o ρ fun oo => ∃ j p ds, oo = .al j p ∧ dat ρ oo = some (.list ds) ∧ D.nx (modE ρ j p (.list []))) (hbase : attributeBase o "clear" X.env (eval o X.env) = eval o X.env := by rfl) (hline : (apos.endLine == cpos.line) = true := by rfl)
    (hs : swapsWith (.Call (.Attribute o "clear" apos) [] [] cpos) none pos.line X.env = pure false := by rfl) : S1 X (.Expr (.Call (.Attribute o "clear" apos) [] [] cpos) pos) ρ D := fun B W σ H hW ⟨F, s⟩ => by
  refine ws_of (ps_expr (pe_bm0 PySem.F.plainAttrs_list PySem.F.slot_list_clear PySem.F.type_list_clear mt_clear pe_w hbase hline) hs) ?_
  refine we_mono (h _ σ H (s.mut hW) s.env) fun v H1 ⟨e1, oo, r, j, p, ds, eo, hd, q⟩ => ?_
  subst eo
  obtain ⟨a, w, d0, ev, hj, hσ, hat⟩ := st_place s e1 r hd
  subst ev
  obtain ⟨vs, Sa, ha, hO, nSa, put⟩ := st_mod0 s e1 hj hσ hat
  refine ⟨.inl ⟨rfl, _, .inl (.inl ha)⟩, a, vs, rfl, rfl, ha, _, ?_, q⟩
  exact put _ _ [] .nil .nil fun x hx => by cases hx
end
/-! ### the rows of a mix come to 1 -/
theorem sum_map_add {xs : List Int} {f g : Int → Int} : (xs.map fun x => f x + g x).sum = (xs.map f).sum + (xs.map g).sum := by
  induction xs with
  | nil => rfl
  | cons a r ih =>
    rw [List.map_cons, List.map_cons, List.map_cons, List.sum_cons, List.sum_cons, List.sum_cons, ih]
    omega
theorem sum_map_zero {xs : List Int} : (xs.map fun _ => (0 : Int)).sum = 0 := by
  induction xs with
  | nil => rfl
  | cons a r ih =>
    rw [List.map_cons, List.sum_cons, ih]
    rfl
theorem sum_one {w v : Int} : ∀ {xs : List Int}, xs.Nodup → v ∈ xs → (xs.map fun x => if v = x then w else 0).sum = w
  | [], _, h => by cases h
  | a :: r, hn, h => by
    rw [List.map_cons, List.sum_cons]
    by_cases hv : v = a
    · subst hv
      have hz : (r.map fun x => if v = x then w else 0) = r.map fun _ => (0 : Int) := List.map_congr_left fun x hx => if_neg fun (e : v = x) => (List.nodup_cons.mp hn).1 (e ▸ hx)
      rw [if_pos rfl, hz, sum_map_zero]
      omega
    · rw [if_neg hv, sum_one (List.nodup_cons.mp hn).2 ((List.mem_cons.mp h).resolve_left hv)]
      omega
theorem top_all {i : Nat} {full : List Int} (hn : full.Nodup) : ∀ zs : List (Int × List Int), (∀ z ∈ zs, z.2.getD i 0 ∈ full) → (full.map fun x => ((zs.filter fun p => decide (p.2.getD i 0 = x)).map (·.1)).sum).sum = (zs.map (·.1)).sum
  | [], _ => sum_map_zero
  | z :: zs, h => by
    have ih := top_all hn zs fun y hy => h y (List.mem_cons_of_mem _ hy)
    have e : (full.map fun x => (((z :: zs).filter fun p => decide (p.2.getD i 0 = x)).map (·.1)).sum) = full.map fun x => (if z.2.getD i 0 = x then z.1 else 0) + ((zs.filter fun p => decide (p.2.getD i 0 = x)).map (·.1)).sum := by
      refine List.map_congr_left fun x _ => ?_
      rw [List.filter_cons]
      by_cases hx : z.2.getD i 0 = x
      · rw [if_pos (decide_eq_true hx), if_pos hx, List.map_cons, List.sum_cons]
      · rw [if_neg (by rw [decide_eq_false hx]; exact Bool.false_ne_true), if_neg hx]
        omega
    rw [e, sum_map_add, ih, sum_one hn (h z (List.mem_cons_self ..)), List.map_cons, List.sum_cons]
theorem sumOver_divInt {W : Int} (hW : 0 < W) {row : List Rat} {g : Int → Int} : ∀ {xs : List Int}, (∀ x ∈ xs, leftAt row x = Rat.divInt (g x) W) → sumOver row xs * (W : Rat) = ((xs.map g).sum : Rat)
  | [], _ => by
    show (0 : Rat) * _ = ((0 : Int) : Rat)
    rw [Rat.zero_mul]
    rfl
  | x :: xs, h => by
    have e : sumOver row (x :: xs) = leftAt row x + sumOver row xs := rfl
    rw [e, Rat.add_mul, sumOver_divInt hW fun y hy => h y (List.mem_cons_of_mem _ hy), h x (List.mem_cons_self ..), divInt_mul hW, List.map_cons, List.sum_cons, Rat.intCast_add]
theorem Drawn.rowAt {cs : List Int} {a : Nat} {ws : List Int} {dls : List (List Int)} {i : Nat} {row : List Rat} (h : (drawnQ ws dls a cs.length)[i]? = some row) {x : Int} (hx : 0 ≤ x ∧ x ≤ (cs.length : Int)) : leftAt row x = Rat.divInt (drawnTop ws dls i x) ws.sum := by
  unfold drawnQ at h
  rw [List.getElem?_map] at h
  by_cases hi : i < a
  · rw [List.getElem?_range hi] at h
    have h := (Option.some.inj h).symm
    subst h
    unfold leftAt
    rw [List.getD_eq_getElem?_getD, List.getElem?_map, List.getElem?_range (by omega)]
    show Rat.divInt (drawnTop ws dls i ((x.toNat : Nat) : Int)) ws.sum = _
    rw [Int.toNat_of_nonneg hx.1]
  · rw [List.getElem?_eq_none (by rw [List.length_range]; omega)] at h
    cases h
theorem Drawn.rowSum {cs : List Int} {a : Nat} {ws : List Int} {dls : List (List Int)} (D : Drawn cs a ws dls) {i : Nat} {row : List Rat} (h : (drawnQ ws dls a cs.length)[i]? = some row) {o : List Int} (ho : OrdQ cs.length o) : sumOver row (fullO cs.length o) = 1 := by
  have hs := sum_bds D.w
  have hp := D.pos
  have hW : 0 < ws.sum := by omega
  have hia : i < a := by
    have := (List.getElem?_eq_some_iff.mp h).1
    rwa [drawnQ_len] at this
  have hrg : ∀ x ∈ fullO cs.length o, 0 ≤ x ∧ x ≤ (cs.length : Int) := fun x hx => (fullO_mem ho.rg).mp hx
  have e := sumOver_divInt hW (row := row) (g := fun x => drawnTop ws dls i x) (xs := fullO cs.length o) fun x hx => Drawn.rowAt h (hrg x hx)
  have e2 := top_all (i := i) (fullO_nodup ho.nd ho.rg) (ws.zip dls) fun z hz => by
    have hd := D.dl z.2 (List.of_mem_zip hz).2
    exact (fullO_mem ho.rg).mpr (hd.rg _ (mem_getD (by rw [hd.len]; exact hia)))
  rw [List.map_fst_zip (by rw [D.len]; exact Nat.le_refl _)] at e2
  have e3 : ((fullO cs.length o).map fun x => drawnTop ws dls i x).sum = ws.sum := e2
  rw [e3] at e
  have hWr : (0 : Rat) < (ws.sum : Rat) := Rat.intCast_pos.mpr hW
  have h0 : (ws.sum : Rat) ≠ 0 := fun z => by rw [z] at hWr; exact absurd hWr Rat.lt_irrefl
  have := Rat.mul_div_cancel (a := sumOver row (fullO cs.length o)) h0
  rw [e] at this
  rw [← this, Rat.div_def, Rat.mul_inv_cancel _ h0]
/-! ### one bottom for some -/
def prodD (row : List Rat) : List Int → Nat
  | [] => 1
  | x :: xs => (leftAt row x).den * prodD row xs
theorem prodD_app (row : List Rat) : ∀ xs ys : List Int, prodD row (xs ++ ys) = prodD row xs * prodD row ys
  | [], ys => by rw [List.nil_append, prodD, Nat.one_mul]
  | x :: xs, ys => by rw [List.cons_append, prodD, prodD, prodD_app row xs ys, Nat.mul_assoc]
theorem prodD_take {row : List Rat} {xs : List Int} {k : Nat} {x : Int} (h : xs[k]? = some x) : prodD row (xs.take (k + 1)) = prodD row (xs.take k) * (leftAt row x).den := by
  rw [List.take_add_one, h, prodD_app]
  show _ * ((leftAt row x).den * 1) = _
  rw [Nat.mul_one]
theorem prodD_pos (row : List Rat) : ∀ xs : List Int, 0 < prodD row xs
  | [] => Nat.one_pos
  | x :: xs => Nat.mul_pos (Nat.pos_of_ne_zero (leftAt row x).den_nz) (prodD_pos row xs)
theorem prodD_dvd {row : List Rat} : ∀ {xs : List Int} {x : Int}, x ∈ xs → (leftAt row x).den ∣ prodD row xs
  | [], _, h => by cases h
  | y :: xs, x, h => by
    rcases List.mem_cons.mp h with e | h
    · rw [e]
      exact Nat.dvd_mul_right _ _
    · exact Nat.dvd_trans (prodD_dvd h) (Nat.dvd_mul_left _ _)
theorem prodD_bd {row : List Rat} {b : Nat} (h : ∀ x : Int, (leftAt row x).den < 2 ^ b) : ∀ {xs : List Int}, prodD row xs < 2 ^ (b * xs.length + 1)
  | [] => by rw [prodD]; exact Nat.one_lt_two_pow (by omega)
  | x :: xs => by
    rw [prodD, List.length_cons]
    have := mul_pow_lt (h x) (prodD_bd h (xs := xs))
    rw [show b * (xs.length + 1) + 1 = b + (b * xs.length + 1) by rw [Nat.mul_add]; omega]
    exact this
theorem q_num (q : Rat) : ((q.num : Int) : Rat) = q * ((q.den : Nat) : Rat) := by
  have h0 : ((q.den : Nat) : Rat) ≠ 0 := by
    have := Rat.natCast_pos.mpr (Nat.pos_of_ne_zero q.den_nz)
    intro z
    rw [z] at this
    exact absurd this Rat.lt_irrefl
  have e : q = (q.num : Rat) / (q.den : Rat) := by rw [← Rat.mkRat_eq_div, Rat.mkRat_self]
  calc ((q.num : Int) : Rat) = (q.num : Rat) / (q.den : Rat) * (q.den : Rat) := (Rat.div_mul_cancel h0).symm
    _ = q * ((q.den : Nat) : Rat) := by rw [← e]
/-- a fraction over a bottom that its own divides -/
theorem q_over {q : Rat} {B : Nat} (h : q.den ∣ B) : ((q.num * ((B : Int) / ((q.den : Nat) : Int)) : Int) : Rat) = q * ((B : Nat) : Rat) := by
  obtain ⟨c, rfl⟩ := h
  have hd := q.den_nz
  rw [show ((q.den * c : Nat) : Int) / ((q.den : Nat) : Int) = (c : Int) by rw [Int.natCast_mul, Int.mul_ediv_cancel_left _ (by omega)], Rat.intCast_mul, q_num, Rat.natCast_mul, Rat.intCast_natCast, Rat.mul_assoc]
theorem divInt_of {z : Int} {B : Nat} {q : Rat} (hB : 0 < B) (h : ((z : Int) : Rat) = q * ((B : Nat) : Rat)) : Rat.divInt z (B : Int) = q := by
  have h0 : ((B : Nat) : Rat) ≠ 0 := by
    have := Rat.natCast_pos.mpr hB
    intro z
    rw [z] at this
    exact absurd this Rat.lt_irrefl
  rw [Rat.divInt_eq_div, h, Rat.intCast_natCast, Rat.mul_div_cancel h0]
end DL
namespace DL
open PySem PySem.Spec PyProof.Rows L2
/-! ### sums with one bottom -/
structure RowD (n : Nat) (row : List Rat) : Prop where
  len : row.length = n + 1
  d : ∀ x : Int, (leftAt row x).den < 2 ^ 440
  n : ∀ x : Int, (leftAt row x).num.natAbs < 2 ^ 441
theorem num_bd {q : Rat} (h0 : 0 ≤ q) (h1 : q ≤ 1) : q.num.natAbs ≤ q.den := by
  have a := Rat.num_nonneg.mpr h0
  have b := (Rat.le_iff q 1).mp h1
  have e1 : (1 : Rat).num = 1 := rfl
  have e2 : ((1 : Rat).den : Int) = 1 := rfl
  rw [e1, e2, Int.mul_one, Int.one_mul] at b
  omega
theorem rowD_of {W n : Nat} {row : List Rat} (hl : row.length = n + 1) (h : ∀ q ∈ row, OnD W q ∧ 0 ≤ q ∧ q ≤ 1) (w0 : 0 < W) (hw : W < 2 ^ 440) : RowD n row := by
  have key : ∀ x : Int, (leftAt row x).den < 2 ^ 440 ∧ (leftAt row x).num.natAbs < 2 ^ 441 := fun x => by
    unfold leftAt
    rw [List.getD_eq_getElem?_getD]
    cases e : row[x.toNat]? with
    | none => exact ⟨by decide, by decide⟩
    | some q =>
      obtain ⟨o, p0, p1⟩ := h q (List.mem_of_getElem? e)
      have b := num_bd p0 p1
      have c := Nat.le_of_dvd w0 (o.den_dvd w0)
      exact ⟨by show q.den < _; omega, by show q.num.natAbs < _; omega⟩
  exact ⟨hl, fun x => (key x).1, fun x => (key x).2⟩
def topD (row : List Rat) (B : Nat) (xs : List Int) : Int := (xs.map fun x => (leftAt row x).num * ((B : Int) / (((leftAt row x).den : Nat) : Int))).sum
theorem topD_take {row : List Rat} {B : Nat} {xs : List Int} {k : Nat} {x : Int} (h : xs[k]? = some x) : topD row B (xs.take (k + 1)) = topD row B (xs.take k) + (leftAt row x).num * ((B : Int) / (((leftAt row x).den : Nat) : Int)) := by
  unfold topD
  rw [List.take_add_one, h, Option.toList_some, List.map_append, List.sum_append, List.map_singleton, List.sum_singleton]
theorem topD_eq {row : List Rat} {B : Nat} : ∀ {xs : List Int}, (∀ x ∈ xs, (leftAt row x).den ∣ B) → ((topD row B xs : Int) : Rat) = sumOver row xs * ((B : Nat) : Rat)
  | [], _ => by
    show ((0 : Int) : Rat) = (0 : Rat) * _
    rw [Rat.zero_mul]
    rfl
  | x :: xs, h => by
    have e : sumOver row (x :: xs) = leftAt row x + sumOver row xs := rfl
    have e2 : topD row B (x :: xs) = (leftAt row x).num * ((B : Int) / (((leftAt row x).den : Nat) : Int)) + topD row B xs := by
      unfold topD
      rw [List.map_cons, List.sum_cons]
    rw [e, e2, Rat.add_mul, Rat.intCast_add, q_over (h x (List.mem_cons_self ..)), topD_eq fun y hy => h y (List.mem_cons_of_mem _ hy)]
theorem one_bottom (row : List Rat) (xs : List Int) : Rat.divInt (topD row (prodD row xs) xs) ((prodD row xs : Nat) : Int) = sumOver row xs :=
  divInt_of (prodD_pos row xs) (topD_eq fun _ hx => prodD_dvd hx)
theorem prodD_sm {n : Nat} {row : List Rat} (R : RowD n row) {xs : List Int} (h : xs.length ≤ 7) : prodD row xs < 2 ^ 3100 :=
  Nat.lt_of_lt_of_le (prodD_bd R.d) (Nat.pow_le_pow_right (by decide) (by omega))
theorem RowD.at {n : Nat} {row : List Rat} (R : RowD n row) {x : Int} (h : 0 ≤ x ∧ x ≤ (n : Int)) : atI (row.map frQ) x = some (frQ (leftAt row x)) := atI_frs h.1 (by have := R.len; omega)
theorem atI_last {α : Type} (xs : List α) (x : α) : atI (xs ++ [x]) (-1) = some x := by
  unfold atI ixN
  have h : (xs ++ [x]).length = xs.length + 1 := by rw [List.length_append, List.length_singleton]
  simp only [h]
  simp
  rw [if_pos (by omega)]
  show (xs ++ [x])[(-1 + ((xs.length : Int) + 1)).toNat]? = some x
  rw [show (-1 + ((xs.length : Int) + 1)).toNat = xs.length by omega]
  simp
theorem sums_last {n : Nat} {o : List Int} {row : List Rat} (g : ∀ x ∈ o, 0 ≤ x ∧ x < (n : Int)) : atI ((sumsQ (fullO n o) row).map frQ) (-1) = some (frQ (sumOver row (fullO n o))) := by
  have hm : ((n : Nat) : Int) ∈ fullO n o := (fullO_mem g).mpr ⟨by omega, Int.le_refl _⟩
  have hp := List.length_pos_of_mem hm
  obtain ⟨m, em⟩ : ∃ m, (fullO n o).length = m + 1 := ⟨(fullO n o).length - 1, by omega⟩
  unfold sumsQ
  rw [em, sumsTo_succ, List.map_append, List.take_of_length_le (by omega)]
  exact atI_last _ _
theorem pl_frs (qs : List Rat) : Pl 60 (frsQ qs) := pl_map (n := 59) fun q _ => pl_fr (p := (q.num, ((q.den : Nat) : Int)))
end DL
namespace DL
open PySem PySem.Spec PyProof.Rows L2
/-! ### no prefix sum less -/
def noLessQ : List Rat → List Rat → Bool
  | a :: m, b :: t => !decide (a < b) && noLessQ m t
  | _, _ => true
theorem noLess_T : ∀ {m t : List Rat}, (∀ (j : Nat) a b, m[j]? = some a → t[j]? = some b → ¬ a < b) → noLessQ m t = true
  | [], _, _ => by unfold noLessQ; rfl
  | _ :: _, [], _ => by unfold noLessQ; rfl
  | a :: m, b :: t, h => by
    unfold noLessQ
    rw [decide_eq_false (h 0 a b rfl rfl), noLess_T fun j a b ha hb => h (j + 1) a b ha hb]
    rfl
theorem noLess_F : ∀ {m t : List Rat} {j : Nat} {a b : Rat}, m[j]? = some a → t[j]? = some b → a < b → noLessQ m t = false
  | [], _, j, a, b, h, _, _ => by rw [List.getElem?_nil] at h; cases h
  | _ :: _, [], j, a, b, _, h, _ => by rw [List.getElem?_nil] at h; cases h
  | x :: m, y :: t, 0, a, b, ha, hb, hl => by
    cases ha
    cases hb
    unfold noLessQ
    rw [decide_eq_true hl]
    rfl
  | x :: m, y :: t, j + 1, a, b, ha, hb, hl => by
    unfold noLessQ
    rw [noLess_F (m := m) (t := t) (j := j) ha hb hl, Bool.and_false]
theorem noLess_at {m t : List Rat} (h : noLessQ m t = true) {j : Nat} {a b : Rat} (ha : m[j]? = some a) (hb : t[j]? = some b) : b ≤ a := by
  refine Rat.not_lt.mp fun hl => ?_
  rw [noLess_F ha hb hl] at h
  cases h
end DL
namespace DL
open PySem PySem.Spec PyProof.Rows L2
/-! ### a share moved ahead -/
def aheadQ (row : List Rat) (x y : Int) : List Rat := (row.set x.toNat 0).set y.toNat (leftAt (row.set x.toNat 0) y + leftAt row x)
theorem aheadQ_len (row : List Rat) (x y : Int) : (aheadQ row x y).length = row.length := by
  unfold aheadQ
  rw [List.length_set, List.length_set]
theorem leftAt_set {row : List Rat} {x z : Int} {v : Rat} (hx : 0 ≤ x ∧ x < (row.length : Int)) (hz : 0 ≤ z) : leftAt (row.set x.toNat v) z = if z = x then v else leftAt row z := by
  unfold leftAt
  rw [List.getD_eq_getElem?_getD, List.getD_eq_getElem?_getD]
  by_cases h : z = x
  · subst h
    rw [if_pos rfl, List.getElem?_set_self (by omega)]
    rfl
  · rw [if_neg h, List.getElem?_set_ne (by omega)]
theorem aheadQ_at {row : List Rat} {x y z : Int} (hx : 0 ≤ x ∧ x < (row.length : Int)) (hy : 0 ≤ y ∧ y < (row.length : Int)) (hz : 0 ≤ z) :
    leftAt (aheadQ row x y) z = leftAt row z - (if z = x then leftAt row x else 0) + (if z = y then leftAt row x else 0) := by
  unfold aheadQ
  rw [leftAt_set (by rw [List.length_set]; exact hy) hz]
  rw [leftAt_set hx hy.1, leftAt_set hx hz]
  by_cases h : z = y
  · subst h
    rw [if_pos rfl, if_pos rfl]
    by_cases h2 : z = x
    · subst h2
      rw [if_pos rfl, if_pos rfl]
      grind
    · rw [if_neg h2, if_neg h2]
      grind
  · rw [if_neg h, if_neg h]
    by_cases h2 : z = x
    · subst h2
      rw [if_pos rfl, if_pos rfl]
      grind
    · rw [if_neg h2, if_neg h2]
      grind
theorem sumOver_cons (row : List Rat) (z : Int) (xs : List Int) : sumOver row (z :: xs) = leftAt row z + sumOver row xs := rfl
theorem ahead_sum {row : List Rat} {x y : Int} (hx : 0 ≤ x ∧ x < (row.length : Int)) (hy : 0 ≤ y ∧ y < (row.length : Int)) : ∀ {xs : List Int}, (∀ z ∈ xs, 0 ≤ z) → xs.Nodup →
    sumOver (aheadQ row x y) xs = sumOver row xs - (if x ∈ xs then leftAt row x else 0) + (if y ∈ xs then leftAt row x else 0)
  | [], _, _ => by
    show (0 : Rat) = 0 - _ + _
    rw [if_neg List.not_mem_nil, if_neg List.not_mem_nil]
    grind
  | z :: xs, h, hn => by
    have ih := ahead_sum hx hy (xs := xs) (fun w hw => h w (List.mem_cons_of_mem _ hw)) (List.nodup_cons.mp hn).2
    have hz := (List.nodup_cons.mp hn).1
    rw [sumOver_cons, sumOver_cons, ih, aheadQ_at hx hy (h z (List.mem_cons_self ..))]
    simp only [List.mem_cons]
    by_cases h1 : z = x
    · subst h1
      by_cases h2 : z = y
      · subst h2
        simp only [hz, true_or, if_true, if_false]
        grind
      · simp only [hz, true_or, if_true, if_false, h2, show ¬ y = z from fun e => h2 e.symm, false_or]
        grind
    · by_cases h2 : z = y
      · subst h2
        simp only [hz, true_or, if_true, if_false, h1, show ¬ x = z from fun e => h1 e.symm, false_or]
        grind
      · simp only [h1, h2, show ¬ x = z from fun e => h1 e.symm, show ¬ y = z from fun e => h2 e.symm, false_or, if_false]
        grind
theorem sums_get {fo : List Int} {row : List Rat} {j : Nat} {a : Rat} (h : (sumsQ fo row)[j]? = some a) : j < fo.length ∧ a = sumOver row (fo.take (j + 1)) := by
  have hl : (sumsQ fo row).length = fo.length := by unfold sumsQ; rw [sumsTo_len]
  have hj := (List.getElem?_eq_some_iff.mp h).1
  rw [hl] at hj
  refine ⟨hj, ?_⟩
  unfold sumsQ at h
  rw [sumsTo_get hj] at h
  exact (Option.some.inj h).symm
theorem mem_take_of {xs : List Int} {p k : Nat} {x : Int} (h : xs[p]? = some x) (hk : p < k) : x ∈ xs.take k := by
  refine List.mem_of_getElem? (i := p) ?_
  rw [List.getElem?_take, if_pos hk, h]
theorem pos_of_take {xs : List Int} (hn : xs.Nodup) {p k : Nat} {x : Int} (h : xs[p]? = some x) (hk : x ∈ xs.take k) : p < k := by
  obtain ⟨i, hi⟩ := List.mem_iff_getElem?.mp hk
  rw [List.getElem?_take] at hi
  by_cases hik : i < k
  · rw [if_pos hik] at hi
    have := (List.getElem?_inj (List.getElem?_eq_some_iff.mp h).1 hn).mp (h.trans hi.symm)
    omega
  · rw [if_neg hik] at hi
    cases hi
theorem ahead_noLess {row : List Rat} {fo : List Int} {p q : Nat} {x y : Int} (hn : fo.Nodup) (hr : ∀ z ∈ fo, 0 ≤ z ∧ z < (row.length : Int)) (hx : fo[p]? = some x) (hy : fo[q]? = some y) (hq : q ≤ p) (h0 : 0 ≤ leftAt row x) :
    noLessQ (sumsQ fo (aheadQ row x y)) (sumsQ fo row) = true := by
  refine noLess_T fun j a b ha hb hlt => ?_
  obtain ⟨hj, rfl⟩ := sums_get ha
  obtain ⟨_, rfl⟩ := sums_get hb
  have e := ahead_sum (row := row) (hr x (List.mem_of_getElem? hx)) (hr y (List.mem_of_getElem? hy)) (xs := fo.take (j + 1)) (fun z hz => (hr z (List.mem_of_mem_take hz)).1) (hn.sublist (List.take_sublist ..))
  rw [e] at hlt
  by_cases h1 : x ∈ fo.take (j + 1)
  · have h2 := mem_take_of hy (show q < j + 1 by have := pos_of_take hn hx h1; omega)
    rw [if_pos h1, if_pos h2] at hlt
    grind
  · rw [if_neg h1] at hlt
    by_cases h2 : y ∈ fo.take (j + 1)
    · rw [if_pos h2] at hlt
      grind
    · rw [if_neg h2] at hlt
      grind
theorem sumOver_nn {row : List Rat} : ∀ {xs : List Int}, (∀ z ∈ xs, 0 ≤ leftAt row z) → 0 ≤ sumOver row xs ∧ ∀ z ∈ xs, leftAt row z ≤ sumOver row xs
  | [], _ => ⟨by show (0 : Rat) ≤ 0; grind, fun z hz => by cases hz⟩
  | x :: xs, h => by
    obtain ⟨i1, i2⟩ := sumOver_nn (xs := xs) fun z hz => h z (List.mem_cons_of_mem _ hz)
    have hx := h x (List.mem_cons_self ..)
    rw [sumOver_cons]
    refine ⟨by grind, fun z hz => ?_⟩
    rcases List.mem_cons.mp hz with rfl | hz
    · grind
    · have := i2 z hz
      grind
theorem same_sums {fo : List Int} {r1 r2 : List Rat} (h1 : noLessQ (sumsQ fo r1) (sumsQ fo r2) = true) (h2 : noLessQ (sumsQ fo r2) (sumsQ fo r1) = true) : ∀ x ∈ fo, leftAt r1 x = leftAt r2 x := by
  have key : ∀ k : Nat, k ≤ fo.length → sumOver r1 (fo.take k) = sumOver r2 (fo.take k) := fun k hk => by
    cases k with
    | zero => rfl
    | succ j =>
      have a1 : (sumsQ fo r1)[j]? = some (sumOver r1 (fo.take (j + 1))) := sumsTo_get hk
      have a2 : (sumsQ fo r2)[j]? = some (sumOver r2 (fo.take (j + 1))) := sumsTo_get hk
      exact Rat.le_antisymm (noLess_at h2 a2 a1) (noLess_at h1 a1 a2)
  intro x hx
  obtain ⟨i, hi⟩ := List.mem_iff_getElem?.mp hx
  have hil := (List.getElem?_eq_some_iff.mp hi).1
  have e1 := sumOver_take (row := r1) hi
  have e2 := sumOver_take (row := r2) hi
  have k1 := key i (by omega)
  have k2 := key (i + 1) (by omega)
  grind
theorem row_ext {n : Nat} {r1 r2 : List Rat} (l1 : r1.length = n + 1) (l2 : r2.length = n + 1) (h : ∀ x : Int, 0 ≤ x ∧ x ≤ (n : Int) → leftAt r1 x = leftAt r2 x) : r1 = r2 := by
  refine List.ext_getElem (l1.trans l2.symm) fun i h1 h2 => ?_
  have := h (i : Int) (by omega)
  unfold leftAt at this
  rw [Int.toNat_natCast, List.getD_eq_getElem?_getD, List.getD_eq_getElem?_getD, List.getElem?_eq_getElem h1, List.getElem?_eq_getElem h2] at this
  exact this
end DL
namespace DL
open PySem PySem.Spec PyProof.Rows L2
/-! ### rows that come to one -/
structure RowW (W n : Nat) (row : List Rat) : Prop where
  len : row.length = n + 1
  el : ∀ q ∈ row, OnD W q ∧ 0 ≤ q ∧ q ≤ 1
  one : ∀ o, OrdQ n o → sumOver row (fullO n o) = 1
theorem mem_leftAt {row : List Rat} {q : Rat} (h : q ∈ row) : ∃ i : Nat, i < row.length ∧ q = leftAt row (i : Int) := by
  obtain ⟨i, hi⟩ := List.mem_iff_getElem?.mp h
  refine ⟨i, (List.getElem?_eq_some_iff.mp hi).1, ?_⟩
  unfold leftAt
  rw [Int.toNat_natCast, List.getD_eq_getElem?_getD, hi]
  rfl
theorem leftAt_mem {row : List Rat} {x : Int} (h : 0 ≤ x ∧ x < (row.length : Int)) : leftAt row x ∈ row := by
  unfold leftAt
  rw [List.getD_eq_getElem?_getD, List.getElem?_eq_getElem (by omega : x.toNat < row.length)]
  exact List.getElem_mem _
theorem ordQ_nil (n : Nat) : OrdQ n [] := ⟨List.nodup_nil, fun x h => by cases h⟩
theorem RowW.ahead {W n : Nat} {row : List Rat} (R : RowW W n row) {x y : Int} (hx : 0 ≤ x ∧ x ≤ (n : Int)) (hy : 0 ≤ y ∧ y ≤ (n : Int)) : RowW W n (aheadQ row x y) := by
  have hl := R.len
  have hx2 : 0 ≤ x ∧ x < (row.length : Int) := by omega
  have hy2 : 0 ≤ y ∧ y < (row.length : Int) := by omega
  obtain ⟨sx, s0, s1⟩ := R.el _ (leftAt_mem hx2)
  have z0 : OnD W 0 := OnD.int 0
  have one : ∀ o, OrdQ n o → sumOver (aheadQ row x y) (fullO n o) = 1 := fun o ho => by
    have e := ahead_sum hx2 hy2 (xs := fullO n o) (fun z hz => ((fullO_mem ho.rg).mp hz).1) (fullO_nodup ho.nd ho.rg)
    rw [e, R.one o ho, if_pos ((fullO_mem ho.rg).mpr hx), if_pos ((fullO_mem ho.rg).mpr hy)]
    grind
  have nn : ∀ z : Int, 0 ≤ z ∧ z ≤ (n : Int) → OnD W (leftAt (aheadQ row x y) z) ∧ 0 ≤ leftAt (aheadQ row x y) z := fun z hz => by
    obtain ⟨a1, a2, a3⟩ := R.el _ (leftAt_mem (row := row) (x := z) (by omega))
    rw [aheadQ_at hx2 hy2 hz.1]
    refine ⟨?_, ?_⟩
    · refine OnD.add (OnD.sub a1 ?_) ?_
      · split
        · exact sx
        · exact z0
      · split
        · exact sx
        · exact z0
    · by_cases h1 : z = x
      · subst h1
        rw [if_pos rfl]
        split <;> grind
      · rw [if_neg h1]
        split <;> grind
  refine ⟨by rw [aheadQ_len, hl], fun q hq => ?_, one⟩
  obtain ⟨i, hi, rfl⟩ := mem_leftAt hq
  rw [aheadQ_len, hl] at hi
  have hi2 : 0 ≤ (i : Int) ∧ (i : Int) ≤ (n : Int) := by omega
  have hm := (fullO_mem (ordQ_nil n).rg).mpr hi2
  have b := (sumOver_nn (row := aheadQ row x y) (xs := fullO n []) fun z hz => (nn z ((fullO_mem (ordQ_nil n).rg).mp hz)).2).2 _ hm
  rw [one [] (ordQ_nil n)] at b
  exact ⟨(nn _ hi2).1, (nn _ hi2).2, b⟩
theorem RowW.ok {W n : Nat} {row : List Rat} (R : RowW W n row) (w0 : 0 < W) (hw : W < 2 ^ 1990) (hn : n ≤ 6) {o : List Int} (ho : OrdQ n o) : RowOk (fullO n o) row := rowOk_gen R.len R.el w0 hw ho hn
theorem Drawn.rowW {cs : List Int} {a : Nat} {ws : List Int} {dls : List (List Int)} (D : Drawn cs a ws dls) {row : List Rat} (h : row ∈ drawnQ ws dls a cs.length) : RowW ws.sum.toNat cs.length row := by
  obtain ⟨i, hi⟩ := List.mem_iff_getElem?.mp h
  exact ⟨(D.row h).1, (D.row h).2, fun o ho => D.rowSum hi ho⟩
/-- rows as good as each other are alike -/
theorem RowW.same {W V n : Nat} {r1 r2 : List Rat} (R1 : RowW W n r1) (R2 : RowW V n r2) {o : List Int} (ho : OrdQ n o) (h1 : noLessQ (sumsQ (fullO n o) r1) (sumsQ (fullO n o) r2) = true) (h2 : noLessQ (sumsQ (fullO n o) r2) (sumsQ (fullO n o) r1) = true) : r1 = r2 :=
  row_ext R1.len R2.len fun x hx => same_sums h1 h2 x ((fullO_mem ho.rg).mpr hx)
end DL
namespace DL
open PySem PySem.Spec PyProof.Rows L2
/-! ### sizes of bottoms -/
theorem lt_1990 {W : Nat} (h : W < 2 ^ 440) : W < 2 ^ 1990 := Nat.lt_trans h (Nat.pow_lt_pow_right (by decide) (by decide))
theorem gcd_stepZ (x y : Int) : Int.gcd y (x % y) = Int.gcd x y := by
  rw [Int.gcd_comm x y]
  apply Nat.dvd_antisymm
  · have h : ((Int.gcd y (x % y) : Nat) : Int) ∣ y * (x / y) + x % y := Int.dvd_add (Int.dvd_mul_of_dvd_left (Int.gcd_dvd_left ..)) (Int.gcd_dvd_right ..)
    rw [Int.mul_ediv_add_emod] at h
    exact Int.dvd_gcd (Int.gcd_dvd_left ..) h
  · refine Int.dvd_gcd (Int.gcd_dvd_left ..) ?_
    rw [Int.emod_def]
    exact Int.dvd_sub (Int.gcd_dvd_right ..) (Int.dvd_mul_of_dvd_left (Int.gcd_dvd_left ..))
theorem pl_frQ (q : Rat) : Pl 60 (frQ q) := pl_tup fun x hx => by
  simp only [List.mem_cons, List.not_mem_nil, or_false] at hx
  rcases hx with rfl | rfl <;> exact pl_int
end DL
namespace DL
open PySem PySem.Spec PyProof.Rows L2
/-! ### frozen lists put together, copied -/
section
variable {X : Cx} {ρ : DEnv} {a b : Expr} {pos p : Pos}
theorem rd_catF {Q : DE → Prop} (h : RF X a ρ fun d1 => RF X b ρ fun d2 => ∃ xs ys, d1 = .list xs ∧ d2 = .list ys ∧ xs.length + ys.length ≤ sizeLine ∧ Q (.fz (.list (xs ++ ys)))) : RD X (.BinOp a .Add b pos) ρ Q := fun U σ H m E => by
  intro pins s I
  refine wpAny_BinOp (thn (h U σ H m E pins s I) fun v s1 ⟨x, H1, I1, r1, e1, d1, p1, h2⟩ => ?_)
  refine thn (h2 U σ H1 (m.mono e1) (envR_same E e1) pins s1 I1) fun u s2 ⟨y, H2, I2, r2, e2, d2, p2, xs, ys, hx, hy, hz, q⟩ => ?_
  subst hx hy
  have p1' : Rp X.K (Hide H2 U) x (.list xs) := dp_sub (hide_same e2 fun _ _ _ z => z) _ _ p1
  have e12 : Same H H2 := e1.trans e2
  cases p1' with
  | lst a1 a2 =>
    cases p2 with
    | lst b1 b2 =>
      refine thn (op_catR pins s2 σ H2 _ _ v u (fun v H' => Same H2 H' ∧ Rp X.K (Hide H' U) v (.list (xs ++ ys))) I2 r1 r2 ⟨_, _, _, _, rfl, rfl, Same.seq hide_sub a1, Same.seq hide_sub b1, by rw [dps_len a2, dps_len b2]; exact hz, fun p hp => ⟨same_new hp, ?_⟩⟩) fun w s3 ⟨z, H3, I3, r3, s3', q3⟩ => ⟨z, H3, I3, r3, e12.trans s3', .fz (.list (xs ++ ys)), q3, q⟩
      exact .lst (.inl (.inl (new_hide (m.mono e12) hp))) (dps_sub (hide_same (same_new hp) fun _ _ _ z => z) _ _ (dps_app a2 b2))
theorem rd_listofF {Q : DE → Prop} (hm : X.mg "list" = none) (h : RFA X [a] ρ fun ds => ∃ es, (ds = [.list es] ∨ ds = [.tuple es]) ∧ Q (.fz (.list es))) (hg : Gl X "list" := by rfl) (he : starEach [a] X.env = (false, eval a X.env) :: starEach [] X.env := by rfl) : RD X (.Call (.Name "list" p) [a] [] pos) ρ Q := fun U σ H m E => by
  refine we_of (pe_callTy call_list_of hg hm (by decide +kernel) pa_w (by decide) (by decide) he rfl) (wa_mono (h U σ H m E) fun vs H1 ⟨e1, ds, pp, es, hd, q⟩ => ?_)
  have fin : ∀ {xs : List V} {l : Addr}, RpAll X.K (Hide H1 U) xs es → H1 l = none → Same H (upd H1 l (.lst xs)) ∧ ∃ o, ResR X.K U ρ σ H (upd H1 l (.lst xs)) (.ref l) o ∧ Q o := fun {xs l} g hn => 
    ⟨e1.trans (same_new hn), .fz (.list es), .lst (.inl (.inl (new_hide (m.mono e1) hn))) (dps_sub (hide_same (same_new hn) fun _ _ _ z => z) _ _ g), q⟩
  rcases hd with hd | hd
  · subst hd
    obtain ⟨v, rfl, h3⟩ := rps1 pp
    cases h3 with
    | lst g1 g2 => exact ⟨_, _, rfl, .inl (Same.seq hide_sub g1), fun l hn => fin g2 hn⟩
  · subst hd
    obtain ⟨v, rfl, h3⟩ := rps1 pp
    cases h3 with
    | tup g1 g2 => exact ⟨_, _, rfl, .inr (seqT hide_sub g1), fun l hn => fin g2 hn⟩
end
/-! ### sums on one bottom -/
def toI (B : Nat) (q : Rat) : Int := (q * ((B : Nat) : Rat)).num
theorem toI_of {B : Nat} {q : Rat} {z : Int} (h : ((z : Int) : Rat) = q * ((B : Nat) : Rat)) : toI B q = z := by
  unfold toI
  rw [← h]
  rfl
theorem toI_cast {B : Nat} {q : Rat} (h : OnD B q) : ((toI B q : Int) : Rat) = q * ((B : Nat) : Rat) := by
  obtain ⟨z, hz⟩ := h
  rw [toI_of hz.symm, hz]
theorem toI_num {B : Nat} {q : Rat} (h : q.den ∣ B) : q.num * ((B : Int) / ((q.den : Nat) : Int)) = toI B q := (toI_of (q_over h)).symm
theorem onD_den {B : Nat} {q : Rat} (h : q.den ∣ B) : OnD B q := (OnD.self q).dvd h
theorem toI_divInt {B : Nat} {q : Rat} (h : q.den ∣ B) (hB : 0 < B) : q = Rat.divInt (toI B q) (B : Int) := (divInt_of hB (toI_cast (onD_den h))).symm
theorem onD_iff {B : Nat} {q : Rat} (d0 : 0 < B) : OnD B q ↔ q.den ∣ B := ⟨fun h => h.den_dvd d0, onD_den⟩
end DL
namespace DL
open PySem PySem.Spec PyProof.Rows L2
/-! ### the meal's ends -/
abbrev StepQ := Rat × List Int × List Int
def endsStep (s : Rat × List (Option Rat)) (st : StepQ) : Rat × List (Option Rat) := (s.1 + st.1, st.2.2.foldl (fun f x => f.set x.toNat (some (s.1 + st.1))) s.2)
def ends0 (cs : List Int) : Rat × List (Option Rat) := (0, cs.map fun c => if c = 0 then some 0 else none)
def endsTo (cs : List Int) (steps : List StepQ) : Rat × List (Option Rat) := steps.foldl endsStep (ends0 cs)
theorem endsTo_snoc (cs : List Int) (steps : List StepQ) (st : StepQ) : endsTo cs (steps ++ [st]) = endsStep (endsTo cs steps) st := by
  unfold endsTo
  rw [List.foldl_append]
  rfl
theorem foldSet_len {α : Type} (v : α) : ∀ (xs : List Int) (l : List α), (xs.foldl (fun f x => f.set x.toNat v) l).length = l.length
  | [], l => rfl
  | x :: xs, l => by
    rw [List.foldl_cons, foldSet_len v xs, List.length_set]
theorem foldSet_out {α : Type} (v : α) {k : Nat} : ∀ (xs : List Int) (l : List α), (∀ x ∈ xs, 0 ≤ x) → (k : Int) ∉ xs → (xs.foldl (fun f x => f.set x.toNat v) l)[k]? = l[k]?
  | [], l, _, _ => rfl
  | x :: xs, l, h, hm => by
    rw [List.foldl_cons, foldSet_out v xs _ (fun y hy => h y (List.mem_cons_of_mem _ hy)) (fun z => hm (List.mem_cons_of_mem _ z))]
    have h0 := h x (List.mem_cons_self ..)
    have hne : (k : Int) ≠ x := fun z => hm (by rw [z]; exact List.mem_cons_self ..)
    exact List.getElem?_set_ne (by omega)
theorem foldSet_in {α : Type} (v : α) {k : Nat} : ∀ (xs : List Int) (l : List α), (∀ x ∈ xs, 0 ≤ x) → k < l.length → (k : Int) ∈ xs → (xs.foldl (fun f x => f.set x.toNat v) l)[k]? = some v
  | [], l, _, _, hm => (nomatch hm)
  | x :: xs, l, h, hk, hm => by
    rw [List.foldl_cons]
    by_cases hx : (k : Int) ∈ xs
    · exact foldSet_in v xs _ (fun y hy => h y (List.mem_cons_of_mem _ hy)) (by rw [List.length_set]; exact hk) hx
    · have e : (k : Int) = x := by
        rcases List.mem_cons.mp hm with e | e
        · exact e
        · exact absurd e hx
      rw [foldSet_out v xs _ (fun y hy => h y (List.mem_cons_of_mem _ hy)) hx, ← e, Int.toNat_natCast, List.getElem?_set_self hk]
def colSum (rows : List (List Rat)) (k : Nat) : Rat := sumQ (rows.map fun r => leftAt r (k : Int))
theorem colSum_zip {l : Rat} {k : Nat} : ∀ {rows : List (List Rat)} {eaten : List Int}, rows.length = eaten.length → (∀ r ∈ rows, ∀ x ∈ eaten, 0 ≤ x ∧ x.toNat < r.length) → colSum (List.zipWith (addRow l) rows eaten) k = colSum rows k + l * ((cntQ eaten k : Nat) : Rat)
  | [], [], _, _ => by
    show (0 : Rat) = 0 + l * ((0 : Nat) : Rat)
    rw [show ((0 : Nat) : Rat) = 0 from rfl]
    grind
  | r :: rows, x :: eaten, h, hh => by
    have ih := colSum_zip (l := l) (k := k) (rows := rows) (eaten := eaten) (by simpa using h) (fun r hr x hx => hh r (List.mem_cons_of_mem _ hr) x (List.mem_cons_of_mem _ hx))
    have h1 := hh r (List.mem_cons_self ..) x (List.mem_cons_self ..)
    have e := leftAt_addRow (l := l) (row := r) (x := x) (y := (k : Int)) h1.1 h1.2 (by omega)
    show leftAt (addRow l r x) (k : Int) + colSum (List.zipWith (addRow l) rows eaten) k = (leftAt r (k : Int) + colSum rows k) + l * ((cntQ (x :: eaten) k : Nat) : Rat)
    rw [ih, e]
    have hc : cntQ (x :: eaten) k = cntQ eaten k + if (k : Int) = x then 1 else 0 := by
      unfold cntQ
      rw [List.count_cons]
      by_cases hx : (k : Int) = x
      · rw [if_pos hx, if_pos (by rw [hx]; exact beq_self_eq_true _)]
      · rw [if_neg hx, if_neg (by intro z; exact hx (eq_of_beq z).symm)]
    rw [hc, Rat.natCast_add]
    split
    · rw [show ((1 : Nat) : Rat) = 1 from rfl]
      grind
    · rw [show ((0 : Nat) : Rat) = 0 from rfl]
      grind
structure EInv (t : Table) (i : Nat) (s : MS) : Prop where
  a : (endsTo t.1 s.steps).1 = 1 - s.time
  l : (endsTo t.1 s.steps).2.length = t.1.length
  nn : ∀ k, k < t.1.length → ((endsTo t.1 s.steps).2[k]? = some none ↔ s.left.getD k 0 ≠ 0)
  tm : ∀ (k : Nat) q, (endsTo t.1 s.steps).2[k]? = some (some q) → OnD (60 ^ i) q ∧ 0 ≤ q ∧ q ≤ 1
  sh : ∀ k, k < t.1.length → colSum s.shares k + s.left.getD k 0 = ((t.1.getD k 0 : Int) : Rat)
  st : ∀ st ∈ s.steps, OnD (60 ^ i) st.1 ∧ 0 ≤ st.1 ∧ st.1 ≤ 1 ∧ ∀ x ∈ st.2.2, 0 ≤ x ∧ x < (t.1.length : Int)
theorem eaten_rg {fo : List (List Int)} {left : List Rat} {n : Nat} (F : FoOk n fo) (hl : left.length = n) : ∀ x ∈ eatenQ fo left, 0 ≤ x ∧ x ≤ (n : Int) := fun x hx => by
  obtain ⟨o, ho, rfl⟩ := List.mem_map.mp hx
  have := eats1_spec (left := left) (o := o) (by rw [hl]; exact F.rg o ho)
  omega
theorem EInv.next {t : Table} (M : MTab t) {i : Nat} {s : MS} (I : MInv t i s) (E : EInv t i s) (ht : s.time ≠ 0) : EInv t (i + 1) (mnext (fosQ t) s) := by
  have F := M.fo
  have S := I.slen F ht
  have hfl : (fosQ t).length = t.2.length := List.length_map _
  have I' := (I.next F hfl ht).1
  have he : (eatenQ (fosQ t) s.left).length ≤ 6 := by rw [eatenQ, List.length_map]; exact F.len
  have hel : (eatenQ (fosQ t) s.left).length = t.2.length := by rw [eatenQ, List.length_map, hfl]
  have D := slen_onD he I.tD I.lD
  have up : (60 : Nat) ^ i ∣ 60 ^ (i + 1) := ⟨60, Nat.pow_succ ..⟩
  have hrg := eaten_rg F I.ll
  have hlp := I.left_pos F
  have hl0 : ∀ k, k < t.1.length → 0 ≤ (newLeft (eatenQ (fosQ t) s.left) s.left (slenQ (eatenQ (fosQ t) s.left) s.left s.time)).getD k 0 := fun k hk => (I'.l0 _ (getD_mem (by rw [I'.ll]; exact hk))).1
  have hnl : ∀ k, k < t.1.length → (newLeft (eatenQ (fosQ t) s.left) s.left (slenQ (eatenQ (fosQ t) s.left) s.left s.time)).getD k 0 = s.left.getD k 0 - slenQ (eatenQ (fosQ t) s.left) s.left s.time * ((cntQ (eatenQ (fosQ t) s.left) k : Nat) : Rat) := fun k hk => newLeft_get (by rw [I.ll]; exact hk)
  have hst : (mnext (fosQ t) s).steps = s.steps ++ [(slenQ (eatenQ (fosQ t) s.left) s.left s.time, eatenQ (fosQ t) s.left, endedTo (eatenQ (fosQ t) s.left) (newLeft (eatenQ (fosQ t) s.left) s.left (slenQ (eatenQ (fosQ t) s.left) s.left s.time)) s.left.length)] := rfl
  have hsh : (mnext (fosQ t) s).shares = List.zipWith (addRow (slenQ (eatenQ (fosQ t) s.left) s.left s.time)) s.shares (eatenQ (fosQ t) s.left) := rfl
  have hle : (mnext (fosQ t) s).left = newLeft (eatenQ (fosQ t) s.left) s.left (slenQ (eatenQ (fosQ t) s.left) s.left s.time) := rfl
  have hti : (mnext (fosQ t) s).time = s.time - slenQ (eatenQ (fosQ t) s.left) s.left s.time := rfl
  generalize mnext (fosQ t) s = s' at *
  generalize newLeft (eatenQ (fosQ t) s.left) s.left (slenQ (eatenQ (fosQ t) s.left) s.left s.time) = nl at *
  generalize hl : slenQ (eatenQ (fosQ t) s.left) s.left s.time = l at *
  generalize hE : eatenQ (fosQ t) s.left = eaten at *
  have hend : ∀ x ∈ endedTo eaten nl s.left.length, 0 ≤ x ∧ x < (t.1.length : Int) := fun x hx => by
    have := rng_mem.mp (List.mem_filter.mp hx).1
    rw [I.ll] at this
    exact this
  have hmem : ∀ k, k < t.1.length → ((k : Int) ∈ endedTo eaten nl s.left.length ↔ 0 < cntQ eaten k ∧ ¬ 0 < nl.getD k 0) := fun k hk => by
    unfold endedTo
    rw [List.mem_filter, rng_mem, Bool.and_eq_true, Bool.not_eq_true', decide_eq_true_eq, decide_eq_false_iff_not, I.ll]
    show _ ∧ 0 < List.count (k : Int) eaten ∧ ¬ 0 < nl.getD (k : Int).toNat 0 ↔ _
    rw [Int.toNat_natCast]
    unfold cntQ
    constructor
    · exact fun h => h.2
    · exact fun h => ⟨by omega, h⟩
  have cz : ∀ k, ¬ 0 < cntQ eaten k → ((cntQ eaten k : Nat) : Rat) = 0 := fun k h => by
    rw [show cntQ eaten k = 0 by omega]; rfl
  have hto : endsTo t.1 s'.steps = endsStep (endsTo t.1 s.steps) (l, eaten, endedTo eaten nl s.left.length) := by rw [hst, endsTo_snoc]
  refine ⟨?_, ?_, ?_, ?_, ?_, ?_⟩
  · rw [hto, hti]
    show (endsTo t.1 s.steps).1 + l = _
    rw [E.a]
    grind
  · rw [hto]
    exact (foldSet_len (some ((endsTo t.1 s.steps).1 + l)) (endedTo eaten nl s.left.length) (endsTo t.1 s.steps).2).trans E.l
  · intro k hk
    have e1 := hmem k hk
    have e2 := hnl k hk
    have e3 := hl0 k hk
    rw [hto, hle]
    by_cases hm : (k : Int) ∈ endedTo eaten nl s.left.length
    · show (List.foldl (fun f x => f.set x.toNat (some ((endsTo t.1 s.steps).1 + l))) (endsTo t.1 s.steps).2 (endedTo eaten nl s.left.length))[k]? = _ ↔ _
      rw [foldSet_in _ _ _ (fun x hx => (hend x hx).1) (by rw [E.l]; exact hk) hm]
      have := (e1.mp hm).2
      constructor
      · intro h; simp at h
      · intro h; exfalso; grind
    · show (List.foldl (fun f x => f.set x.toNat (some ((endsTo t.1 s.steps).1 + l))) (endsTo t.1 s.steps).2 (endedTo eaten nl s.left.length))[k]? = _ ↔ _
      rw [foldSet_out _ _ _ (fun x hx => (hend x hx).1) hm, E.nn k hk]
      by_cases hc : 0 < cntQ eaten k
      · have h1 := hlp k (by rw [I.ll]; exact hk) hc
        have h2 : 0 < nl.getD k 0 := Decidable.byContradiction fun z => hm (e1.mpr ⟨hc, z⟩)
        constructor
        · intro _; grind
        · intro _; grind
      · rw [e2, cz k hc]
        constructor
        · intro h z; exact h (by grind)
        · intro h z; exact h (by grind)
  · intro k q hq
    rw [hto] at hq
    have hq : (List.foldl (fun f x => f.set x.toNat (some ((endsTo t.1 s.steps).1 + l))) (endsTo t.1 s.steps).2 (endedTo eaten nl s.left.length))[k]? = some (some q) := hq
    by_cases hm : (k : Int) ∈ endedTo eaten nl s.left.length
    · have hk := hend _ hm
      rw [foldSet_in _ _ _ (fun x hx => (hend x hx).1) (by rw [E.l]; omega) hm] at hq
      have hq : (endsTo t.1 s.steps).1 + l = q := by simpa using hq
      rw [← hq, E.a]
      have h1 := S.pos
      have h2 := S.le
      have h3 := I.t0
      refine ⟨?_, by grind, by grind⟩
      have h1D : OnD (60 ^ (i + 1)) (1 : Rat) := OnD.int 1
      exact (h1D.sub (I.tD.dvd up)).add D
    · rw [foldSet_out _ _ _ (fun x hx => (hend x hx).1) hm] at hq
      have := E.tm k q hq
      exact ⟨this.1.dvd up, this.2⟩
  · intro k hk
    have e1 := E.sh k hk
    have e2 := hnl k hk
    rw [hle, e2, hsh, colSum_zip (by rw [I.sl, hel]) (fun r hr x hx => by
      have := hrg x hx
      have := I.rl r hr
      omega)]
    grind
  · intro st hs
    rw [hst] at hs
    rcases List.mem_append.mp hs with hs | hs
    · have := E.st st hs
      exact ⟨this.1.dvd up, this.2⟩
    · rw [List.mem_singleton.mp hs]
      have h1 := S.pos
      have h2 := S.le
      have h3 := I.t0
      exact ⟨D, by show 0 ≤ l; grind, by show l ≤ 1; grind, hend⟩
theorem MTab.einv {t : Table} (M : MTab t) : ∀ i, EInv t i (mst t i)
  | 0 => by
    have hto : endsTo t.1 (mst t 0).steps = ends0 t.1 := rfl
    refine ⟨?_, ?_, ?_, ?_, ?_, ?_⟩
    · show (0 : Rat) = 1 - 1
      grind
    · show (List.map _ _).length = _
      rw [List.length_map]
    · intro k hk
      show (t.1.map fun c => if c = 0 then some (0 : Rat) else none)[k]? = _ ↔ (t.1.map fun c => ((c : Int) : Rat)).getD k 0 ≠ 0
      rw [List.getD_eq_getElem?_getD, List.getElem?_map, List.getElem?_map, List.getElem?_eq_getElem hk]
      show some (if t.1[k] = 0 then some (0 : Rat) else none) = _ ↔ ((t.1[k] : Int) : Rat) ≠ 0
      by_cases h : t.1[k] = 0
      · rw [if_pos h, h]
        constructor
        · intro z; simp at z
        · intro z; exact absurd rfl z
      · rw [if_neg h]
        constructor
        · intro _ z; exact h (Rat.intCast_inj.mp z)
        · intro _; rfl
    · intro k q hq
      have hq : (t.1.map fun c => if c = 0 then some (0 : Rat) else none)[k]? = some (some q) := hq
      obtain ⟨c, _, hc⟩ := get_map hq
      split at hc
      · cases hc
        exact ⟨OnD.int 0, by decide, by decide⟩
      · cases hc
    · intro k hk
      show sumQ ((t.2.map fun _ => List.replicate (t.1.length + 1) (0 : Rat)).map fun r => leftAt r (k : Int)) + (t.1.map fun c => ((c : Int) : Rat)).getD k 0 = _
      have hz : ∀ os : List (List Int), sumQ ((os.map fun _ => List.replicate (t.1.length + 1) (0 : Rat)).map fun r => leftAt r (k : Int)) = 0 := fun os => by
        induction os with
        | nil => rfl
        | cons o os ih =>
          show leftAt (List.replicate (t.1.length + 1) (0 : Rat)) (k : Int) + sumQ ((os.map fun _ => List.replicate (t.1.length + 1) (0 : Rat)).map fun r => leftAt r (k : Int)) = 0
          rw [ih]
          unfold leftAt
          rw [Int.toNat_natCast, List.getD_eq_getElem?_getD, List.getElem?_replicate]
          split <;> exact Rat.add_zero 0
      rw [hz, List.getD_eq_getElem?_getD, List.getD_eq_getElem?_getD, List.getElem?_map, List.getElem?_eq_getElem hk]
      show (0 : Rat) + ((t.1[k] : Int) : Rat) = ((t.1[k] : Int) : Rat)
      grind
    · intro st hs
      cases hs
  | i + 1 => by
    show EInv t (i + 1) (mstep (fosQ t) (mst t i))
    have E := M.einv i
    have up : (60 : Nat) ^ i ∣ 60 ^ (i + 1) := ⟨60, Nat.pow_succ ..⟩
    unfold mstep
    split
    · exact ⟨E.a, E.l, E.nn, fun k q h => ⟨(E.tm k q h).1.dvd up, (E.tm k q h).2⟩, E.sh, fun st h => ⟨(E.st st h).1.dvd up, (E.st st h).2⟩⟩
    · rename_i hz
      exact EInv.next M (M.inv i).1 E hz
end DL
namespace DL
open PySem PySem.Spec PyProof.Rows L2
abbrev optD (o : Option Rat) : PyData := match o with
  | none => .none
  | some q => frQ q
abbrev endsD (es : List (Option Rat)) : PyData := .list (es.map optD)
theorem endsTo_fst (steps : List StepQ) : ∀ s : Rat × List (Option Rat), (steps.foldl endsStep s).1 = s.1 + sumQ (steps.map (·.1)) := by
  induction steps with
  | nil => intro s; exact (Rat.add_zero _).symm
  | cons st steps ih =>
    intro s
    rw [List.foldl_cons, ih]
    show (s.1 + st.1) + _ = s.1 + (st.1 + _)
    rw [Rat.add_assoc]
theorem sumQ_nn : ∀ {qs : List Rat}, (∀ q ∈ qs, 0 ≤ q) → 0 ≤ sumQ qs
  | [], _ => Rat.le_refl
  | q :: qs, h => by
    have h1 := h q (List.mem_cons_self ..)
    have h2 := sumQ_nn (fun x hx => h x (List.mem_cons_of_mem _ hx))
    show 0 ≤ q + sumQ qs
    grind
theorem sumQ_take_le {qs : List Rat} (h : ∀ q ∈ qs, 0 ≤ q) (k : Nat) : 0 ≤ sumQ (qs.take k) ∧ sumQ (qs.take k) ≤ sumQ qs := by
  have h1 := sumQ_nn (qs := qs.take k) fun q hq => h q (List.mem_of_mem_take hq)
  have h2 := sumQ_nn (qs := qs.drop k) fun q hq => h q (List.mem_of_mem_drop hq)
  have h3 := sumQ_app (qs.take k) (qs.drop k)
  rw [List.take_append_drop] at h3
  exact ⟨h1, by grind⟩
theorem sumQ_onD {D : Nat} : ∀ {qs : List Rat}, (∀ q ∈ qs, OnD D q) → OnD D (sumQ qs)
  | [], _ => OnD.int 0
  | q :: qs, h => (h q (List.mem_cons_self ..)).add (sumQ_onD fun x hx => h x (List.mem_cons_of_mem _ hx))
structure StepsOk (t : Table) (steps : List StepQ) : Prop where
  rg : ∀ st ∈ steps, ∀ x ∈ st.2.2, 0 ≤ x ∧ x < (t.1.length : Int)
  sm : ∀ st ∈ steps, SmQ st.1
  tk : ∀ k, SmQ (endsTo t.1 (steps.take k)).1
  len : steps.length ≤ 7
theorem MTab.stepsOk {t : Table} (M : MTab t) : StepsOk t (mealQ t).steps := by
  have hn := M.n
  have E := M.einv (t.1.length + 1)
  have I := (M.inv (t.1.length + 1)).1
  have hz := M.fin
  have ha := E.a
  have hst := E.st
  have hl := I.st
  change ∀ st ∈ (mealQ t).steps, _ at hst
  change (endsTo t.1 (mealQ t).steps).1 = 1 - (mealQ t).time at ha
  change (mealQ t).steps.length ≤ _ at hl
  generalize (mealQ t).steps = steps at *
  refine ⟨fun st h => (hst st h).2.2.2, fun st h => smq60 (by omega) (hst st h).1 (by have := (hst st h).2.1; grind) (by have := (hst st h).2.2.1; grind), fun k => ?_, by omega⟩
  have e : (endsTo t.1 (steps.take k)).1 = sumQ ((steps.map (·.1)).take k) := by
    unfold endsTo
    rw [endsTo_fst]
    show (0 : Rat) + _ = _
    rw [Rat.zero_add, List.map_take]
  have e2 : (endsTo t.1 steps).1 = sumQ (steps.map (·.1)) := by
    unfold endsTo
    rw [endsTo_fst]
    show (0 : Rat) + _ = _
    rw [Rat.zero_add]
  have hb := sumQ_take_le (qs := steps.map (·.1)) (fun q hq => by
    obtain ⟨st, hs, rfl⟩ := List.mem_map.mp hq
    exact (hst st hs).2.1) k
  have hD : OnD (60 ^ (t.1.length + 1)) (sumQ ((steps.map (·.1)).take k)) := sumQ_onD fun q hq => by
    obtain ⟨st, hs, rfl⟩ := List.mem_map.mp (List.mem_of_mem_take hq)
    exact (hst st hs).1
  rw [e]
  rw [← e2, ha, hz] at hb
  exact smq60 (by omega) hD (by grind) (by grind)
theorem foldl_take {α β : Type} (g : β → α → β) (b : β) {xs : List α} {k : Nat} {x : α} (h : xs[k]? = some x) : (xs.take (k + 1)).foldl g b = g ((xs.take k).foldl g b) x := by
  rw [List.take_succ, h, List.foldl_append]
  rfl
end DL
namespace DL
open PySem PySem.Spec PyProof.Rows L2
def densOk (rows : List (List Rat)) (M : Nat) : Prop := ∀ r ∈ rows, ∀ q ∈ r, q.den ∣ M
theorem lcm_int (a b : Nat) : (a : Int) * (b : Int) / ((Int.gcd (a : Int) (b : Int) : Nat) : Int) = ((Nat.lcm a b : Nat) : Int) := by
  rw [Int.gcd_natCast_natCast, Nat.lcm, Int.natCast_ediv, Int.natCast_mul]
theorem sm_dvd_nat {a M : Nat} (h : a ∣ M) (M0 : 0 < M) (hM : M < 2 ^ 2000) : Sm (a : Int) := smI 2000 (by rw [Int.natAbs_natCast]; exact Nat.lt_of_le_of_lt (Nat.le_of_dvd M0 h) hM) (by decide)
theorem toI_add {B : Nat} {a b : Rat} (ha : OnD B a) (hb : OnD B b) : toI B (a + b) = toI B a + toI B b := toI_of (by
  rw [Rat.intCast_add, toI_cast ha, toI_cast hb]
  grind)
theorem toI_zero (B : Nat) : toI B 0 = 0 := toI_of (by rw [Rat.zero_mul]; rfl)
def optI (B : Nat) (o : Option Rat) : PyData := match o with
  | none => .none
  | some q => .int (toI B q)
theorem lf_optI (B : Nat) (o : Option Rat) : lf (optI B o) = true := by cases o <;> rfl
theorem lf_optD (o : Option Rat) : lf (optD o) = true := by cases o <;> rfl
theorem owd_nrm {ρ : DEnv} {d : PyData} (h : lf d = true) : owd ρ (nrm d) d := by
  unfold nrm
  rw [h]
  exact ⟨rfl, h⟩
theorem cm_isN (d : PyData) : cmD .Is d .none = some (True, isNn d) := by cases d <;> rfl
theorem cm_isNot (d : PyData) : cmD .IsNot d .none = some (True, !isNn d) := by cases d <;> rfl
theorem isNn_optI (B : Nat) (o : Option Rat) : isNn (optI B o) = o.isNone := by cases o <;> rfl
theorem isNn_optD (o : Option Rat) : isNn (optD o) = o.isNone := by cases o <;> rfl
theorem endsTo_len (cs : List Int) (steps : List StepQ) : (endsTo cs steps).2.length = cs.length := by
  have : ∀ (ss : List StepQ) (s : Rat × List (Option Rat)), (ss.foldl endsStep s).2.length = s.2.length := fun ss => by
    induction ss with
    | nil => intro s; rfl
    | cons st ss ih =>
      intro s
      rw [List.foldl_cons, ih]
      exact foldSet_len _ _ _
  rw [endsTo, this]
  exact List.length_map _
theorem endsTo_onD {B : Nat} (cs : List Int) {steps : List StepQ} (h : ∀ st ∈ steps, st.1.den ∣ B) (k : Nat) : OnD B (endsTo cs (steps.take k)).1 := by
  unfold endsTo
  rw [endsTo_fst]
  show OnD B (0 + _)
  rw [Rat.zero_add]
  refine sumQ_onD fun q hq => ?_
  obtain ⟨st, hs, rfl⟩ := List.mem_map.mp hq
  exact onD_den (h st (List.mem_of_mem_take hs))
theorem colSum_toI {B : Nat} {k : Nat} : ∀ {rows : List (List Rat)}, (∀ r ∈ rows, (leftAt r (k : Int)).den ∣ B) → (((rows.map fun r => toI B (leftAt r (k : Int))).sum : Int) : Rat) = colSum rows k * ((B : Nat) : Rat)
  | [], _ => by
    show ((0 : Int) : Rat) = 0 * _
    rw [Rat.zero_mul]
    rfl
  | r :: rows, h => by
    rw [List.map_cons, List.sum_cons, Rat.intCast_add, colSum_toI fun r hr => h r (List.mem_cons_of_mem _ hr), toI_cast (onD_den (h r (List.mem_cons_self ..)))]
    show _ = (leftAt r (k : Int) + colSum rows k) * _
    grind
theorem lt_scale {a b : Rat} {B : Nat} (hB : 0 < B) : a * ((B : Nat) : Rat) < b * ((B : Nat) : Rat) ↔ a < b := by
  have h := rat_natpos hB
  constructor
  · intro z
    refine Rat.not_le.mp fun y => ?_
    have := Rat.mul_le_mul_of_nonneg_right y (Rat.le_of_lt h)
    exact absurd z (Rat.not_lt.mpr this)
  · exact fun z => Rat.mul_lt_mul_of_pos_right z h
end DL
namespace DL
open PySem PySem.Spec PyProof.Rows L2
theorem stepD_inj {a b : StepQ} (h : stepD a = stepD b) : a = b := by
  obtain ⟨a1, a2, a3⟩ := a
  obtain ⟨b1, b2, b3⟩ := b
  simp only [stepD, PyData.tuple.injEq, List.cons.injEq, and_true] at h
  have h1 := frQ_inj (a := a1) (b := b1) (by rw [frQ, frQ]; exact congrArg PyData.tuple (by simp only [List.cons.injEq, and_true]; exact h.1))
  rw [h1, nums_inj h.2.1, nums_inj h.2.2]
theorem map_injL {α : Type} {f : α → PyData} (hf : ∀ a b, f a = f b → a = b) : ∀ {xs ys : List α}, xs.map f = ys.map f → xs = ys
  | [], [], _ => rfl
  | [], _ :: _, h => by simp at h
  | _ :: _, [], h => by simp at h
  | x :: xs, y :: ys, h => by
    simp only [List.map_cons, List.cons.injEq] at h
    rw [hf x y h.1, map_injL hf h.2]
theorem stepsD_inj {a b : List StepQ} (h : stepsD a = stepsD b) : a = b := map_injL (fun _ _ => stepD_inj) (PyData.list.inj h)
theorem frsQ_inj {a b : List Rat} (h : frsQ a = frsQ b) : a = b := map_injL (fun _ _ => frQ_inj) (PyData.list.inj h)
theorem sharesD_inj {a b : List (List Rat)} (h : sharesD a = sharesD b) : a = b := map_injL (fun _ _ => frsQ_inj) (PyData.list.inj h)
theorem endsTo_den {cs : List Int} {steps : List StepQ} {B : Nat} (h : ∀ st ∈ steps, st.1.den ∣ B) {k : Nat} {q : Rat} (hq : (endsTo cs steps).2[k]? = some (some q)) : q.den ∣ B := by
  have key : ∀ (ss : List StepQ) (s : Rat × List (Option Rat)), 0 < B → (∀ st ∈ ss, st.1.den ∣ B) → OnD B s.1 → (∀ p, some p ∈ s.2 → OnD B p) → ∀ p, some p ∈ (ss.foldl endsStep s).2 → OnD B p := fun ss => by
    induction ss with
    | nil => intro s _ _ _ h; exact h
    | cons st ss ih =>
      intro s B0 hs h1 h2
      have h1' : OnD B (s.1 + st.1) := h1.add (onD_den (hs st (List.mem_cons_self ..)))
      refine ih _ B0 (fun x hx => hs x (List.mem_cons_of_mem _ hx)) h1' ?_
      have : ∀ (xs : List Int) (l : List (Option Rat)), (∀ p, some p ∈ l → OnD B p) → ∀ p, some p ∈ xs.foldl (fun f x => f.set x.toNat (some (s.1 + st.1))) l → OnD B p := fun xs => by
        induction xs with
        | nil => intro l h; exact h
        | cons x xs ih =>
          intro l h
          refine ih _ fun p hp => ?_
          rcases List.mem_or_eq_of_mem_set hp with hp | hp
          · exact h p hp
          · cases hp
            exact h1'
      exact this _ _ h2
  by_cases B0 : 0 < B
  · refine OnD.den_dvd (key steps (ends0 cs) B0 h (OnD.int 0) (fun p hp => ?_) q (List.mem_of_getElem? hq)) B0
    obtain ⟨c, _, hc⟩ := List.mem_map.mp hp
    split at hc
    · cases hc
      exact OnD.int 0
    · cases hc
  · rw [show B = 0 by omega]
    exact Nat.dvd_zero _
end DL
namespace DL
open PySem PySem.Spec PyProof.Rows L2
/-! ### what is better is gone -/
structure WInv (t : Table) (s : MS) : Prop where
  w : ∀ (a : Nat) r f, s.shares[a]? = some r → (fosQ t)[a]? = some f → ∀ (p q : Nat) x y, f[p]? = some x → f[q]? = some y → p < q → (x = (t.1.length : Int) ∨ leftAt s.left x ≠ 0) → leftAt r y = 0
  one : ∀ (a : Nat) r f, s.shares[a]? = some r → (fosQ t)[a]? = some f → sumOver r f = 1 - s.time
theorem zip_row {l : Rat} {rows : List (List Rat)} {fo : List (List Int)} {left : List Rat} {c : Nat} {rc : List Rat} (h : (List.zipWith (addRow l) rows (eatenQ fo left))[c]? = some rc) : ∃ r f, rows[c]? = some r ∧ fo[c]? = some f ∧ rc = addRow l r (eats1 left f) := by
  rw [List.getElem?_zipWith, eatenQ, List.getElem?_map] at h
  cases h1 : rows[c]? with
  | none => rw [h1] at h; simp at h
  | some r =>
    cases h2 : fo[c]? with
    | none => rw [h1, h2] at h; simp at h
    | some f =>
      rw [h1, h2] at h
      exact ⟨r, f, rfl, rfl, (Option.some.inj h).symm⟩
theorem eats1_mem {left : List Rat} : ∀ {o : List Int}, (left.length : Int) ∈ o → eats1 left o ∈ o
  | x :: r, h => by
    show (if x = left.length ∨ leftAt left x ≠ 0 then x else eats1 left r) ∈ x :: r
    split
    · exact List.mem_cons_self ..
    · rename_i hx
      rcases List.mem_cons.mp h with h | h
      · exact absurd (.inl h.symm) hx
      · exact List.mem_cons_of_mem _ (eats1_mem h)
theorem eats1_prev {left : List Rat} : ∀ {o : List Int}, o.Nodup → (left.length : Int) ∈ o → ∀ {p q : Nat} {x : Int}, o[p]? = some x → o[q]? = some (eats1 left o) → p < q → ¬ (x = left.length ∨ leftAt left x ≠ 0) := fun {o} hn hm {p q x} hp hq hpq hx => by
  have h1 := eats1_first (left := left) (o := o) (k := p + 1) (y := x) (mem_take_of hp (Nat.lt_succ_self p)) hx
  have := pos_of_take hn hq h1
  omega
theorem left_mono {t : Table} (M : MTab t) {i : Nat} {s : MS} (I : MInv t i s) (hz : s.time ≠ 0) {x : Int} (hx : 0 ≤ x ∧ x < (t.1.length : Int)) : leftAt (mnext (fosQ t) s).left x ≠ 0 → leftAt s.left x ≠ 0 := by
  have hk : x.toNat < s.left.length := by rw [I.ll]; omega
  have e : leftAt (mnext (fosQ t) s).left x = leftAt s.left x - slenQ (eatenQ (fosQ t) s.left) s.left s.time * ((cntQ (eatenQ (fosQ t) s.left) x.toNat : Nat) : Rat) := newLeft_get hk
  intro h h0
  apply h
  rw [e, h0]
  have hc : ¬ 0 < cntQ (eatenQ (fosQ t) s.left) x.toNat := fun hc => cnt_left (fo := fosQ t) (left := s.left) (by rw [I.ll]; exact M.fo.rg) hk hc h0
  rw [show cntQ (eatenQ (fosQ t) s.left) x.toNat = 0 by omega]
  show (0 : Rat) - _ * 0 = 0
  grind
theorem WInv.next {t : Table} (M : MTab t) {i : Nat} {s : MS} (I : MInv t i s) (hz : s.time ≠ 0) (N : WInv t s) : WInv t (mnext (fosQ t) s) := by
  have F := M.fo
  have hl : s.left.length = t.1.length := I.ll
  constructor
  · intro a ra fa ha hfa p q x y hp hq hpq hx
    obtain ⟨r, f, h1, hf, rfl⟩ := zip_row ha
    rw [hfa] at hf
    cases hf
    have hm := List.mem_of_getElem? hfa
    have hfn := F.nn fa hm
    have hxr := F.rg fa hm x (List.mem_of_getElem? hp)
    have hyr := F.rg fa hm y (List.mem_of_getElem? hq)
    have hx' : x = (t.1.length : Int) ∨ leftAt s.left x ≠ 0 := by
      rcases hx with h | h
      · exact .inl h
      · by_cases hxn : x = (t.1.length : Int)
        · exact .inl hxn
        · exact .inr (left_mono M I hz ⟨hxr.1, by omega⟩ h)
    have s1 := eats1_spec (left := s.left) (o := fa) (by rw [hl]; exact F.rg fa hm)
    have hrl := I.rl r (List.mem_of_getElem? h1)
    rw [leftAt_addRow s1.1 (by omega) hyr.1, N.w a r fa h1 hfa p q x y hp hq hpq hx', if_neg fun z => ?_, Rat.add_zero]
    rw [z] at hq
    exact eats1_prev (M.foNd fa hm) (by rw [hl]; exact hfn) hp hq hpq (by rw [hl]; exact hx')
  · intro a ra fa ha hfa
    obtain ⟨r, f, h1, hf, rfl⟩ := zip_row ha
    rw [hfa] at hf
    cases hf
    have hm := List.mem_of_getElem? hfa
    have hfn := F.nn fa hm
    have s1 := eats1_spec (left := s.left) (o := fa) (by rw [hl]; exact F.rg fa hm)
    have hrl := I.rl r (List.mem_of_getElem? h1)
    rw [sumOver_addRow s1.1 (by omega) (M.foNd fa hm) (fun y hy => (F.rg fa hm y hy).1), if_pos (eats1_mem (by rw [hl]; exact hfn)), N.one a r fa h1 hfa]
    show _ = 1 - (s.time - slenQ (eatenQ (fosQ t) s.left) s.left s.time)
    grind
theorem leftAt_rep0 {n : Nat} (x : Int) : leftAt (List.replicate n (0 : Rat)) x = 0 := by
  unfold leftAt
  rw [List.getD_eq_getElem?_getD, List.getElem?_replicate]
  split <;> rfl
theorem sumOver_zero {row : List Rat} : ∀ {xs : List Int}, (∀ x ∈ xs, leftAt row x = 0) → sumOver row xs = 0
  | [], _ => rfl
  | x :: xs, h => by
    rw [sumOver_cons, h x (List.mem_cons_self ..), sumOver_zero fun y hy => h y (List.mem_cons_of_mem _ hy), Rat.zero_add]
theorem MTab.winv {t : Table} (M : MTab t) : ∀ i, WInv t (mst t i)
  | 0 => by
    constructor
    · intro a r f ha _ p q x y _ _ _ _
      have ha : (t.2.map fun _ => List.replicate (t.1.length + 1) (0 : Rat))[a]? = some r := ha
      obtain ⟨_, _, rfl⟩ := get_map ha
      exact leftAt_rep0 y
    · intro a r f ha _
      have ha : (t.2.map fun _ => List.replicate (t.1.length + 1) (0 : Rat))[a]? = some r := ha
      obtain ⟨_, _, rfl⟩ := get_map ha
      rw [sumOver_zero fun x _ => leftAt_rep0 x]
      show (0 : Rat) = 1 - 1
      grind
  | i + 1 => by
    show WInv t (mstep (fosQ t) (mst t i))
    unfold mstep
    split
    · exact M.winv i
    · rename_i hz
      exact WInv.next M (M.inv i).1 hz (M.winv i)
/-- the meal's shares, what is known of them -/
structure MealF (t : Table) (sh : List (List Rat)) (left : List Rat) : Prop where
  sl : sh.length = t.2.length
  rl : ∀ r ∈ sh, r.length = t.1.length + 1
  r01 : ∀ r ∈ sh, ∀ q ∈ r, OnD (60 ^ 7) q ∧ 0 ≤ q ∧ q ≤ 1
  ll : left.length = t.1.length
  l0 : ∀ q ∈ left, 0 ≤ q
  col : ∀ k, k < t.1.length → colSum sh k + left.getD k 0 = ((t.1.getD k 0 : Int) : Rat)
  one : ∀ (a : Nat) r o, sh[a]? = some r → t.2[a]? = some o → sumOver r (fullO t.1.length o) = 1
  w : ∀ (a : Nat) r o, sh[a]? = some r → t.2[a]? = some o → ∀ (p q : Nat) x y, (fullO t.1.length o)[p]? = some x → (fullO t.1.length o)[q]? = some y → p < q → (x = (t.1.length : Int) ∨ leftAt left x ≠ 0) → leftAt r y = 0
  ne : ∀ (i j : Nat) ri rj o, sh[i]? = some ri → sh[j]? = some rj → t.2[i]? = some o → ∀ k, sumOver rj ((fullO t.1.length o).take k) ≤ sumOver ri ((fullO t.1.length o).take k)
theorem MTab.mealF {t : Table} (M : MTab t) : MealF t (mealQ t).shares (mealQ t).left := by
  have W := M.winv (t.1.length + 1)
  have I := (M.inv (t.1.length + 1)).1
  have hz := M.fin
  have hfo : ∀ (a : Nat) o, t.2[a]? = some o → (fosQ t)[a]? = some (fullO t.1.length o) := fun a o h => by rw [fosQ, List.getElem?_map, h]; rfl
  refine ⟨M.sharesLen, fun r hr => (M.rows hr).1, fun r hr => (M.rows hr).2, I.ll, fun q hq => (I.l0 q hq).1, (M.einv (t.1.length + 1)).sh, fun a r o hr ho => ?_, fun a r o hr ho => W.w a r _ hr (hfo a o ho), fun i j ri rj o hi hj ho k => M.noEnvy (t.1.length + 1) i j ri rj _ hi hj (hfo i o ho) k⟩
  have h := W.one a r _ hr (hfo a o ho)
  rw [h]
  show 1 - (mealQ t).time = 1
  rw [hz]
  grind
end DL
namespace DL
open PySem PySem.Spec PyProof.Rows L2
/-! ### known meals -/
def oneStep (cs : List Int) (s : List Int × Int) (x : Int) : List Int × Int := (s.1.set x.toNat (min s.2 (cs.getD x.toNat 0)), s.2 - min s.2 (cs.getD x.toNat 0))
def oneTo (cs o : List Int) (a : Int) (k : Nat) : List Int × Int := (o.take k).foldl (oneStep cs) (List.replicate (cs.length + 1) 0, a)
def oneRow (cs o : List Int) (a : Int) : List Int := (oneTo cs o a o.length).1.set cs.length (oneTo cs o a o.length).2
theorem sumOver_app (row : List Rat) : ∀ xs ys : List Int, sumOver row (xs ++ ys) = sumOver row xs + sumOver row ys
  | [], ys => (Rat.zero_add _).symm
  | x :: xs, ys => by
    rw [List.cons_append, sumOver_cons, sumOver_cons, sumOver_app row xs ys, Rat.add_assoc]
theorem sumOver_split (row : List Rat) (xs : List Int) (k : Nat) : sumOver row xs = sumOver row (xs.take k) + sumOver row (xs.drop k) := by
  rw [← sumOver_app, List.take_append_drop]
theorem colSum_rep {r : List Rat} {k : Nat} : ∀ {rows : List (List Rat)}, (∀ x ∈ rows, x = r) → colSum rows k = ((rows.length : Nat) : Rat) * leftAt r (k : Int)
  | [], _ => (Rat.zero_mul _).symm
  | x :: rows, h => by
    show leftAt x (k : Int) + colSum rows k = (((rows.length + 1 : Nat)) : Rat) * _
    rw [h x (List.mem_cons_self ..), colSum_rep fun y hy => h y (List.mem_cons_of_mem _ hy), Rat.natCast_add]
    show _ = (_ + 1) * _
    grind
theorem fullO_take {n : Nat} {o : List Int} {k : Nat} (h : k ≤ o.length) : (fullO n o).take k = o.take k := by
  unfold fullO
  rw [List.append_assoc, List.take_append_of_le_length h]
theorem fullO_at {n : Nat} {o : List Int} {k : Nat} (h : k < o.length) : (fullO n o)[k]? = o[k]? := by
  unfold fullO
  rw [List.append_assoc, List.getElem?_append_left h]
theorem fullO_n {n : Nat} {o : List Int} : (fullO n o)[o.length]? = some (n : Int) := by
  unfold fullO
  rw [List.append_assoc, List.getElem?_append_right (Nat.le_refl _), Nat.sub_self]
  rfl
section
variable {t : Table} {sh : List (List Rat)} {left : List Rat}
theorem MealF.nn (F : MealF t sh left) {r : List Rat} (hr : r ∈ sh) {x : Int} (hx : 0 ≤ x ∧ x ≤ (t.1.length : Int)) : 0 ≤ leftAt r x ∧ leftAt r x ≤ 1 :=
  (F.r01 r hr _ (leftAt_mem (by have := F.rl r hr; omega))).2
theorem MealF.lat (F : MealF t sh left) {x : Int} (hx : 0 ≤ x ∧ x < (t.1.length : Int)) : 0 ≤ leftAt left x :=
  F.l0 _ (leftAt_mem (by rw [F.ll]; omega))
/-- behind what is left, or nothing, there is nothing -/
theorem MealF.rest (F : MealF t sh left) {i : Nat} {r : List Rat} {o : List Int} (hr : sh[i]? = some r) (ho : t.2[i]? = some o) {p : Nat} {x : Int} (hp : (fullO t.1.length o)[p]? = some x) (hx : x = (t.1.length : Int) ∨ leftAt left x ≠ 0) : sumOver r ((fullO t.1.length o).take (p + 1)) = 1 := by
  have h1 := F.one i r o hr ho
  rw [sumOver_split r _ (p + 1), sumOver_zero (xs := (fullO t.1.length o).drop (p + 1)) fun y hy => ?_, Rat.add_zero] at h1
  · exact h1
  obtain ⟨q, hq⟩ := List.mem_iff_getElem?.mp hy
  rw [List.getElem?_drop] at hq
  exact F.w i r o hr ho p (p + 1 + q) x y hp hq (by omega) hx
theorem MealF.pre (F : MealF t sh left) (hrg : ∀ o ∈ t.2, ∀ x ∈ o, 0 ≤ x ∧ x < (t.1.length : Int)) {i : Nat} {r : List Rat} {o : List Int} (hr : sh[i]? = some r) (ho : t.2[i]? = some o) (k : Nat) : sumOver r ((fullO t.1.length o).take k) ≤ 1 := by
  have h1 := F.one i r o hr ho
  have h2 := sumOver_nn (row := r) (xs := (fullO t.1.length o).drop k) fun z hz => (F.nn (List.mem_of_getElem? hr) ((fullO_mem (hrg o (List.mem_of_getElem? ho))).mp (List.mem_of_mem_drop hz))).1
  rw [sumOver_split r _ k] at h1
  grind
end
theorem min_cast_le {a b : Int} (h : ((a : Int) : Rat) ≤ ((b : Int) : Rat)) : min a b = a := by
  have : a ≤ b := Rat.intCast_le_intCast.mp h
  omega
theorem min_cast_ge {a b : Int} (h : ((b : Int) : Rat) ≤ ((a : Int) : Rat)) : min a b = b := by
  have : b ≤ a := Rat.intCast_le_intCast.mp h
  omega
section
variable {cs o : List Int} {a : Nat} {sh : List (List Rat)} {left : List Rat}
theorem one_known (a1 : 1 ≤ a) (ho : OrdQ cs.length o) (F : MealF (cs, List.replicate a o) sh left) {r : List Rat} (hr : r ∈ sh) : ∀ x : Int, 0 ≤ x ∧ x ≤ (cs.length : Int) → leftAt r x = Rat.divInt ((oneRow cs o a).getD x.toNat 0) (a : Int) := by
  have hord : ∀ i : Nat, i < a → (List.replicate a o)[i]? = some o := fun i hi => by rw [List.getElem?_replicate, if_pos hi]
  have hsl : sh.length = a := by rw [F.sl]; exact List.length_replicate
  have hrg : ∀ o' ∈ List.replicate a o, ∀ x ∈ o', 0 ≤ x ∧ x < (cs.length : Int) := fun o' h' => by
    rw [(List.mem_replicate.mp h').2]
    exact ho.rg
  have hmem : ∀ x ∈ fullO cs.length o, 0 ≤ x ∧ x ≤ (cs.length : Int) := fun x hx => (fullO_mem ho.rg).mp hx
  obtain ⟨i, hi⟩ := List.mem_iff_getElem?.mp hr
  have hia : i < a := by
    have := (List.getElem?_eq_some_iff.mp hi).1
    omega
  have hsame : ∀ r' ∈ sh, r' = r := fun r' hr' => by
    obtain ⟨j, hj⟩ := List.mem_iff_getElem?.mp hr'
    have hja : j < a := by
      have := (List.getElem?_eq_some_iff.mp hj).1
      omega
    refine row_ext (n := cs.length) (F.rl r' hr') (F.rl r hr) fun x hx => ?_
    have hxm : x ∈ fullO cs.length o := (fullO_mem ho.rg).mpr hx
    obtain ⟨p, hp⟩ := List.mem_iff_getElem?.mp hxm
    have e : ∀ k, sumOver r' ((fullO cs.length o).take k) = sumOver r ((fullO cs.length o).take k) := fun k =>
      Rat.le_antisymm (F.ne i j r r' o hi hj (hord i hia) k) (F.ne j i r' r o hj hi (hord j hja) k)
    have e1 := e (p + 1)
    rw [sumOver_take hp, sumOver_take hp, e p] at e1
    grind
  have hcol : ∀ x : Int, 0 ≤ x ∧ x < (cs.length : Int) → ((a : Nat) : Rat) * leftAt r x + leftAt left x = ((cs.getD x.toNat 0 : Int) : Rat) := fun x hx => by
    have h1 := F.col x.toNat (by show _ < cs.length; omega)
    rw [colSum_rep hsame, hsl, show ((x.toNat : Nat) : Int) = x by omega] at h1
    exact h1
  have apos : (0 : Rat) < ((a : Nat) : Rat) := rat_natpos a1
  have step : ∀ k, k ≤ o.length → (oneTo cs o a k).1.length = cs.length + 1 ∧ (((oneTo cs o a k).2 : Int) : Rat) = ((a : Nat) : Rat) * (1 - sumOver r (o.take k)) ∧ ∀ x : Int, 0 ≤ x ∧ x ≤ (cs.length : Int) → (((oneTo cs o a k).1.getD x.toNat 0 : Int) : Rat) = if x ∈ o.take k then ((a : Nat) : Rat) * leftAt r x else 0 := fun k => by
    induction k with
    | zero =>
      intro _
      refine ⟨List.length_replicate, ?_, fun x _ => ?_⟩
      · show ((a : Int) : Rat) = _ * (1 - 0)
        rw [Rat.intCast_natCast]
        grind
      · rw [List.take_zero, if_neg (List.not_mem_nil)]
        show (((List.replicate (cs.length + 1) (0 : Int)).getD x.toNat 0 : Int) : Rat) = 0
        rw [List.getD_eq_getElem?_getD, List.getElem?_replicate]
        split <;> rfl
    | succ k ih =>
      intro hk
      obtain ⟨h1, h2, h3⟩ := ih (by omega)
      obtain ⟨x, hx⟩ : ∃ x, o[k]? = some x := ⟨_, List.getElem?_eq_getElem (by omega)⟩
      have hxr := ho.rg x (List.mem_of_getElem? hx)
      have hfx : (fullO cs.length o)[k]? = some x := by rw [fullO_at (by omega), hx]
      have hs : oneTo cs o a (k + 1) = oneStep cs (oneTo cs o a k) x := foldl_take _ _ hx
      have hS : sumOver r (o.take (k + 1)) = sumOver r (o.take k) + leftAt r x := sumOver_take hx
      have hc := hcol x hxr
      have hl := F.lat hxr
      have hS1 : sumOver r (o.take (k + 1)) ≤ 1 := by
        have := F.pre hrg hi (hord i hia) (k + 1)
        rw [fullO_take (by omega)] at this
        exact this
      have hmin : ((min (oneTo cs o a k).2 (cs.getD x.toNat 0) : Int) : Rat) = ((a : Nat) : Rat) * leftAt r x := by
        by_cases hz : leftAt left x = 0
        · rw [hz, Rat.add_zero] at hc
          rw [min_cast_ge, hc]
          rw [h2, ← hc]
          exact Rat.mul_le_mul_of_nonneg_left (by grind) (Rat.le_of_lt apos)
        · have h4 := F.rest hi (hord i hia) hfx (.inr hz)
          rw [fullO_take (by omega)] at h4
          have h5 : leftAt r x = 1 - sumOver r (o.take k) := by grind
          rw [min_cast_le, h2, h5]
          rw [h2, ← hc, h5]
          grind
      rw [hs]
      refine ⟨?_, ?_, fun y hy => ?_⟩
      · show (List.set ..).length = _
        rw [List.length_set, h1]
      · show (((oneTo cs o a k).2 - min (oneTo cs o a k).2 (cs.getD x.toNat 0) : Int) : Rat) = _
        rw [Rat.intCast_sub, hmin, h2, hS]
        grind
      · show ((((oneTo cs o a k).1.set x.toNat (min (oneTo cs o a k).2 (cs.getD x.toNat 0))).getD y.toNat 0 : Int) : Rat) = _
        have hto : o.take (k + 1) = o.take k ++ [x] := by rw [List.take_succ, hx]; rfl
        by_cases hyx : y = x
        · subst hyx
          rw [if_pos (by rw [hto]; exact List.mem_append_right _ (List.mem_singleton.mpr rfl)), List.getD_eq_getElem?_getD, List.getElem?_set_self (by omega)]
          exact hmin
        · rw [List.getD_eq_getElem?_getD, List.getElem?_set_ne (by omega), ← List.getD_eq_getElem?_getD, h3 y hy]
          have : y ∈ o.take (k + 1) ↔ y ∈ o.take k := by
            rw [hto, List.mem_append, List.mem_singleton]
            exact ⟨fun h => h.resolve_right hyx, .inl⟩
          by_cases hm : y ∈ o.take k
          · rw [if_pos hm, if_pos (this.mpr hm)]
          · rw [if_neg hm, if_neg fun z => hm (this.mp z)]
  obtain ⟨h1, h2, h3⟩ := step o.length (Nat.le_refl _)
  rw [List.take_length] at h2 h3
  have hn := F.rest hi (hord i hia) (p := o.length) (x := (cs.length : Int)) fullO_n (.inl rfl)
  have hn2 : sumOver r ((fullO cs.length o).take (o.length + 1)) = sumOver r o + leftAt r (cs.length : Int) := by
    have := sumOver_take (row := r) (fo := fullO cs.length o) (k := o.length) fullO_n
    rw [fullO_take (Nat.le_refl _), List.take_length] at this
    exact this
  have hn3 : sumOver r o + leftAt r (cs.length : Int) = 1 := hn2.symm.trans hn
  intro x hx
  refine (divInt_of a1 ?_).symm
  show (((((oneTo cs o a o.length).1.set cs.length (oneTo cs o a o.length).2).getD x.toNat 0 : Int)) : Rat) = _
  by_cases hxn : x = (cs.length : Int)
  · subst hxn
    rw [Int.toNat_natCast, List.getD_eq_getElem?_getD, List.getElem?_set_self (by omega)]
    show (((oneTo cs o a o.length).2 : Int) : Rat) = _
    rw [h2]
    grind
  · rw [List.getD_eq_getElem?_getD, List.getElem?_set_ne (by omega), ← List.getD_eq_getElem?_getD, h3 x hx]
    by_cases hm : x ∈ o
    · rw [if_pos hm]
      grind
    · rw [if_neg hm]
      have hxf : x ∈ fullO cs.length o := (fullO_mem ho.rg).mpr hx
      obtain ⟨q, hq⟩ := List.mem_iff_getElem?.mp hxf
      have hqo : o.length < q := by
        rcases Nat.lt_trichotomy q o.length with h | h | h
        · rw [fullO_at h] at hq
          exact absurd (List.mem_of_getElem? hq) hm
        · rw [h, fullO_n] at hq
          cases hq
          exact absurd rfl hxn
        · exact h
      rw [F.w i r o hi (hord i hia) o.length q _ x fullO_n hq hqo (.inl rfl), Rat.zero_mul]
theorem colSum_le {k : Nat} : ∀ {rows : List (List Rat)}, (∀ r ∈ rows, leftAt r (k : Int) ≤ 1) → colSum rows k ≤ ((rows.length : Nat) : Rat)
  | [], _ => Rat.le_refl
  | r :: rows, h => by
    have h1 := h r (List.mem_cons_self ..)
    have h2 := colSum_le (rows := rows) fun y hy => h y (List.mem_cons_of_mem _ hy)
    show leftAt r (k : Int) + colSum rows k ≤ ((rows.length + 1 : Nat) : Rat)
    rw [Rat.natCast_add, show ((1 : Nat) : Rat) = 1 from rfl]
    grind
theorem colSum_full {k : Nat} : ∀ {rows : List (List Rat)}, (∀ r ∈ rows, leftAt r (k : Int) ≤ 1) → ((rows.length : Nat) : Rat) ≤ colSum rows k → ∀ r ∈ rows, leftAt r (k : Int) = 1
  | r :: rows, h, hs, x, hx => by
    have h1 := h r (List.mem_cons_self ..)
    have hh : ∀ y ∈ rows, leftAt y (k : Int) ≤ 1 := fun y hy => h y (List.mem_cons_of_mem _ hy)
    have h2 := colSum_le (rows := rows) hh
    have hs : (((rows.length + 1 : Nat)) : Rat) ≤ leftAt r (k : Int) + colSum rows k := hs
    rw [Rat.natCast_add, show ((1 : Nat) : Rat) = 1 from rfl] at hs
    rcases List.mem_cons.mp hx with rfl | hx
    · grind
    · exact colSum_full hh (by grind) x hx
theorem enough_known {os : List (List Int)} (hos : ∀ o ∈ os, OrdQ cs.length o) (hc : ∀ c ∈ cs, (os.length : Int) ≤ c) (F : MealF (cs, os) sh left) {i : Nat} {r : List Rat} {o : List Int} (hr : sh[i]? = some r) (hoi : os[i]? = some o) : ∀ x : Int, 0 ≤ x ∧ x ≤ (cs.length : Int) → leftAt r x = if x = o.headD (cs.length : Int) then 1 else 0 := by
  have ho := hos o (List.mem_of_getElem? hoi)
  have hmem : ∀ x ∈ fullO cs.length o, 0 ≤ x ∧ x ≤ (cs.length : Int) := fun x hx => (fullO_mem ho.rg).mp hx
  have hh : (fullO cs.length o)[0]? = some (o.headD (cs.length : Int)) := by cases o <;> rfl
  generalize o.headD (cs.length : Int) = h at *
  have hhm := hmem h (List.mem_of_getElem? hh)
  have hone := F.one i r o hr hoi
  have hsp := sumOver_split r (fullO cs.length o) 1
  have ht1 : sumOver r ((fullO cs.length o).take (0 + 1)) = leftAt r h := by
    rw [sumOver_take hh]
    show sumOver r [] + _ = _
    exact Rat.zero_add _
  have hnn := sumOver_nn (row := r) (xs := (fullO cs.length o).drop 1) fun z hz => (F.nn (List.mem_of_getElem? hr) (hmem z (List.mem_of_mem_drop hz))).1
  have key : leftAt r h = 1 := by
    by_cases hz : h = (cs.length : Int) ∨ leftAt left h ≠ 0
    · have := F.rest hr hoi (p := 0) hh hz
      exact ht1.symm.trans this
    · have hz1 : h ≠ (cs.length : Int) := fun z => hz (.inl z)
      have hz2 : leftAt left h = 0 := by
        by_cases z : leftAt left h = 0
        · exact z
        · exact absurd (.inr z) hz
      have hcol := F.col h.toNat (by show _ < cs.length; omega)
      have hk : h.toNat < cs.length := by omega
      have hcm := hc _ (by rw [List.getD_eq_getElem?_getD, List.getElem?_eq_getElem hk]; exact List.getElem_mem hk : cs.getD h.toNat 0 ∈ cs)
      have hcm2 : ((os.length : Nat) : Rat) ≤ ((cs.getD h.toNat 0 : Int) : Rat) := by
        rw [← Rat.intCast_natCast]
        exact Rat.intCast_le_intCast.mpr hcm
      have e : left.getD h.toNat 0 = 0 := hz2
      rw [e, Rat.add_zero] at hcol
      have hsl : sh.length = os.length := F.sl
      have := colSum_full (k := h.toNat) (rows := sh) (fun r' hr' => (F.nn (x := ((h.toNat : Nat) : Int)) hr' (by show 0 ≤ ((h.toNat : Nat) : Int) ∧ ((h.toNat : Nat) : Int) ≤ (cs.length : Int); omega)).2) (by rw [hsl, hcol]; exact hcm2) r (List.mem_of_getElem? hr)
      rw [show ((h.toNat : Nat) : Int) = h by omega] at this
      exact this
  intro x hx
  by_cases hxh : x = h
  · rw [if_pos hxh, hxh, key]
  · rw [if_neg hxh]
    obtain ⟨q, hq⟩ := List.mem_iff_getElem?.mp ((fullO_mem ho.rg).mpr hx)
    have hq1 : 1 ≤ q := by
      rcases Nat.eq_zero_or_pos q with hq0 | hq0
      · rw [hq0, hh] at hq
        cases hq
        exact absurd rfl hxh
      · exact hq0
    have hxd : x ∈ (fullO cs.length o).drop 1 := by
      refine List.mem_iff_getElem?.mpr ⟨q - 1, ?_⟩
      rw [List.getElem?_drop, show 1 + (q - 1) = q by omega, hq]
    have h1 := hnn.2 x hxd
    have h0 := (F.nn (List.mem_of_getElem? hr) hx).1
    have hone : sumOver r (fullO cs.length o) = 1 := hone
    have ht1 : sumOver r ((fullO cs.length o).take 1) = leftAt r h := ht1
    rw [hsp, ht1, key] at hone
    grind
end
end DL
namespace DL
open PySem PySem.Spec PyProof.Rows L2
theorem map_range_const {α : Type} (n : Nat) (x : α) : (List.range n).map (fun _ => x) = List.replicate n x := by rw [List.map_const', List.length_range]
theorem zeros_eq (n : Nat) : PyData.list ((List.range n).map fun _ => PyData.int 0) = numsD (List.replicate n 0) := by rw [map_range_const, numsD, List.map_replicate]
theorem ixN_int {n : Nat} {x : Int} (h : 0 ≤ x ∧ x < (n : Int)) : ixN n x = some x.toNat := by
  have : x = (x.toNat : Int) := by omega
  rw [this, Int.toNat_natCast]
  exact ixN_nat (by omega)
theorem atI_int {xs : List Int} {x : Int} (h : 0 ≤ x ∧ x < (xs.length : Int)) : atI (xs.map PyData.int) x = some (.int (xs.getD x.toNat 0)) := atI_map xs PyData.int 0 x h.1 h.2
theorem get_int {xs : List Int} {x : Int} (h : 0 ≤ x ∧ x < (xs.length : Int)) : (xs.map PyData.int)[x.toNat]? = some (.int (xs.getD x.toNat 0)) := by
  have hk : x.toNat < xs.length := by omega
  rw [List.getElem?_map, List.getD_eq_getElem?_getD, List.getElem?_eq_getElem hk]
  rfl
theorem nums_set {xs : List Int} {k : Nat} {v : Int} : (xs.map PyData.int).set k (.int v) = (xs.set k v).map PyData.int := by rw [List.map_set]
end DL
namespace DL
open PySem PySem.Spec PyProof.Rows L2
/-! ### sorted -/
def sortQ (xs : List Int) : List Int := xs.mergeSort (fun a b => decide (a ≤ b))
theorem sortQ_perm (xs : List Int) : (sortQ xs).Perm xs := List.mergeSort_perm ..
theorem sortQ_sorted (xs : List Int) : (sortQ xs).Pairwise (· ≤ ·) := by
  have h := List.pairwise_mergeSort (le := fun a b : Int => decide (a ≤ b)) (fun a b c h1 h2 => by simp only [decide_eq_true_eq] at *; omega) (fun a b => by simp only [Bool.or_eq_true, decide_eq_true_eq]; omega) xs
  exact h.imp fun h => of_decide_eq_true h
theorem sortQ_uniq {xs ys : List Int} (p : ys.Perm xs) (s : ys.Pairwise (· ≤ ·)) : ys = sortQ xs :=
  List.Perm.eq_of_pairwise (le := (· ≤ ·)) (fun a b _ _ h1 h2 => Int.le_antisymm h1 h2) s (sortQ_sorted xs) (p.trans (sortQ_perm xs).symm)
/-! ### steps spoiled -/
def scaledQ (st : StepQ) (a b : Int) : StepQ := (Rat.divInt (st.1.num * a) ((st.1.den : Int) * b), st.2.1, st.2.2)
def togetherQ (x y : StepQ) : StepQ := (x.1 + y.1, x.2.1, y.2.2)
def eatenO (st : StepQ) (c : Int) (n : Nat) : StepQ := (st.1, st.2.1.set (c % (st.2.1.length : Int)).toNat ((st.2.1.getD (c % (st.2.1.length : Int)).toNat 0 + 1 + c / 6 % ((n : Int) + 1)) % ((n : Int) + 1)), st.2.2)
def endedO (st : StepQ) (c : Int) (n : Nat) : StepQ := (st.1, st.2.1, if c % max 1 (n : Int) ∈ st.2.2 then st.2.2.filter (fun x => !decide (x = c % max 1 (n : Int))) else sortQ (st.2.2.filter (fun x => !decide (x = c % max 1 (n : Int))) ++ [c % max 1 (n : Int)]))
def lastO (st : StepQ) (w c : Int) (n : Nat) : StepQ := (st.1, ([st.2.1.dropLast, st.2.1 ++ [c % ((n : Int) + 1)], st.2.1, st.2.1] : List (List Int)).getD (w - 11).toNat [], ([st.2.2, st.2.2, st.2.2.reverse, st.2.2 ++ st.2.2] : List (List Int)).getD (w - 11).toNat [])
def tbQ (w : Int) : Int × Int := ([(1, 2), (2, 1), (0, 1), (-1, 1)] : List (Int × Int)).getD (w - 4).toNat (0, 0)
def spoilQ (ss : List StepQ) (p : Nat) (st : StepQ) (w c : Int) (n : Nat) : List StepQ :=
  if w = 0 then ss.take p ++ ss.drop (p + 1)
  else if w = 1 then ss.take p ++ [st] ++ ss.drop p
  else if w = 2 then ss.take p ++ [(Rat.divInt st.1.num (2 * (st.1.den : Int)), st.2.1, []), scaledQ st 1 2] ++ ss.drop (p + 1)
  else if w = 3 then ss.take p ++ [togetherQ st (ss.getD ((p + 1) % ss.length) (0, [], []))] ++ ss.drop (p + 2)
  else if w < 8 then ss.take p ++ [scaledQ st (tbQ w).1 (tbQ w).2] ++ ss.drop (p + 1)
  else if w = 8 then ss.take p ++ [eatenO st c n] ++ ss.drop (p + 1)
  else if w = 9 then ss.take p ++ [endedO st c n] ++ ss.drop (p + 1)
  else if w = 10 then ss.drop p ++ ss.take p
  else ss.take p ++ [lastO st w c n] ++ ss.drop (p + 1)
structure StOk (st : StepQ) : Prop where
  q : SmQ st.1
  e : st.2.1.length ≤ 1000
  e1 : 1 ≤ st.2.1.length
  d : st.2.2.length ≤ 60
theorem cut_pre (ss : List StepQ) (p : Nat) : cutD (ss.map stepD) none (some (p : Int)) = (ss.take p).map stepD := by rw [cut_hi, List.map_take]
theorem cut_post (ss : List StepQ) (p : Nat) : cutD (ss.map stepD) (some (p : Int)) none = (ss.drop p).map stepD := by rw [cut_lo, List.map_drop]
theorem cut_post1 (ss : List StepQ) (p : Nat) : cutD (ss.map stepD) (some ((p : Int) + 1)) none = (ss.drop (p + 1)).map stepD := cut_post ss (p + 1)
theorem cut_post2 (ss : List StepQ) (p : Nat) : cutD (ss.map stepD) (some ((p : Int) + 2)) none = (ss.drop (p + 2)).map stepD := cut_post ss (p + 2)
theorem pl_steps (ss : List StepQ) : Pl 60 (stepsD ss) := pl_list (n := 59) fun x hx => by
  obtain ⟨st, _, rfl⟩ := List.mem_map.mp hx
  refine pl_tup (n := 58) fun y hy => ?_
  simp only [List.mem_cons, List.not_mem_nil, or_false] at hy
  rcases hy with rfl | rfl | rfl
  · exact pl_fr (n := 57) (p := (st.1.num, (st.1.den : Int)))
  · exact pl_ints (n := 57)
  · exact pl_ints (n := 57)
theorem nb_steps (ss : List StepQ) : nb (stepsD ss) = true := nb_map fun st _ => by
  show nbs _ = true
  refine nbs_all fun y hy => ?_
  simp only [List.mem_cons, List.not_mem_nil, or_false] at hy
  rcases hy with rfl | rfl | rfl
  · exact nb_fr _
  · exact nb_ints _
  · exact nb_ints _
theorem MTab.steps_ne {t : Table} (M : MTab t) : (mealQ t).steps ≠ [] := fun h => by
  have ha := (M.einv (t.1.length + 1)).a
  have ha : (endsTo t.1 (mealQ t).steps).1 = 1 - (mealQ t).time := ha
  rw [h, M.fin] at ha
  have : (0 : Rat) = 1 - 0 := ha
  grind
end DL
namespace DL
open PySem PySem.Spec PyProof.Rows L2
theorem MTab.steps_len {t : Table} (M : MTab t) : ∀ i, ∀ st ∈ (mst t i).steps, st.2.1.length = t.2.length ∧ st.2.2.length ≤ t.1.length
  | 0 => fun st h => (nomatch h)
  | i + 1 => by
    show ∀ st ∈ (mstep (fosQ t) (mst t i)).steps, _
    unfold mstep
    split
    · exact M.steps_len i
    · intro st h
      have h : st ∈ (mst t i).steps ++ [(slenQ (eatenQ (fosQ t) (mst t i).left) (mst t i).left (mst t i).time, eatenQ (fosQ t) (mst t i).left, endedTo (eatenQ (fosQ t) (mst t i).left) (newLeft (eatenQ (fosQ t) (mst t i).left) (mst t i).left (slenQ (eatenQ (fosQ t) (mst t i).left) (mst t i).left (mst t i).time)) (mst t i).left.length)] := h
      rcases List.mem_append.mp h with h | h
      · exact M.steps_len i st h
      · rw [List.mem_singleton.mp h]
        refine ⟨?_, ?_⟩
        · show (eatenQ _ _).length = _
          rw [eatenQ, List.length_map, fosQ, List.length_map]
        · rw [← (M.inv i).1.ll]
          exact endedTo_len ..
theorem MTab.stOk {t : Table} (M : MTab t) (h1 : 1 ≤ t.2.length) : ∀ st ∈ (mealQ t).steps, StOk st := fun st h => by
  have h2 := M.steps_len (t.1.length + 1) st h
  have := M.a
  have := M.n
  exact ⟨M.stepsOk.sm st h, by omega, by omega, by omega⟩
end DL
namespace DL
open PySem PySem.Spec PyProof.Rows L2
/-! ### reversed(range(n)) -/
section
variable {X : Cx} {ρ : DEnv} {tg a : Expr} {pos p p2 pos2 : Pos}
theorem ri_revRange {Q : List PyData → Prop} (hm : X.mg "range" = none) (hm2 : X.mg "reversed" = none) (h : RV X a ρ fun d => ∃ n : Nat, d = .int n ∧ n < 2 ^ 61 ∧ Q (rngC ((n : Int) - 1) (-1) n)) (hg : Gl X "range" := by rfl) (hg2 : Gl X "reversed" := by rfl) (hs : starEach [a] X.env = (false, eval a X.env) :: starEach [] X.env := by rfl) (hs2 : starEach [.Call (.Name "range" p2) [a] [] pos2] X.env = (false, eval (.Call (.Name "range" p2) [a] [] pos2) X.env) :: starEach [] X.env := by rfl) : RI X tg (.Call (.Name "reversed" p) [.Call (.Name "range" p2) [a] [] pos2] [] pos) ρ Q := fun U σ H m E => by
  refine ⟨_, pi_revR hg2 hm2 (prg_1 hg hm pe_w hs) hs2, ?_⟩
  refine we_mono (h U σ H m E) fun v H1 ⟨e1, d, pp, n, hd, hn, q⟩ => ?_
  subst hd
  cases pp
  refine ⟨(n : Nat), rfl, by decide, by decide, by omega, by omega, e1, rngC ((n : Int) - 1) (-1) n, fun _ => True, trivial, ?_, q⟩
  rw [show (0 : Int) + ((((n : Int) - 0).toNat : Nat) : Int) - 1 = (n : Int) - 1 by omega, show ((n : Int) - 0).toNat = n by omega]
  exact walk_rangeC
theorem rngC_get {lo c : Int} {n k : Nat} {d : PyData} (h : (rngC lo c n)[k]? = some d) : d = .int (lo + (k : Nat) * c) ∧ k < n := by
  obtain ⟨j, hj, rfl⟩ := get_map h
  have hk := (List.getElem?_eq_some_iff.mp hj).1
  rw [List.length_range] at hk
  rw [List.getElem?_range hk] at hj
  cases hj
  exact ⟨rfl, hk⟩
end
end DL
namespace DL
open PySem PySem.Spec PyProof.Rows L2
/-! ### a def that changes what it is handed, which nobody asks for again -/
section
variable {K : PySem.W.Frag} {B : Hp} {W : Addr → Prop} {ρ : DEnv} {σ : L2.St} {H H1 : Hp} {F : Nat → List Addr}
theorem frame_tups {M : List Addr} (hM : ∀ x ∈ M, ∃ u, H x = some u ∧ Mut (some u)) (fr : ∀ a o, H a = some o → a ∉ M → H1 a = some o) : Tups H H1 ∧ ∀ a xs, H a = some (.tup xs) → H1 a = some (.tup xs) := by
  have nt : ∀ {a o}, H a = some o → ¬ Mut (some o) → a ∉ M := fun {a o} h n m => by
    obtain ⟨xs, hx, mx⟩ := hM a m
    rw [h] at hx
    cases hx
    exact n mx
  refine ⟨fun a xs h => ?_, fun a xs h => fr a _ h (nt h fun z => z)⟩
  rcases h with h | ⟨o, h⟩
  · exact .inl (fr a _ h (nt h fun z => z))
  · exact .inr ⟨o, fr a _ h (nt h fun z => z)⟩
theorem st_frame {M : List Addr} (s : StF K B (fun a => W a ∨ a ∈ M) ρ σ H F) (hM : ∀ x ∈ M, B x = none ∧ (∀ k, x ∉ F k) ∧ ∃ u, H x = some u ∧ Mut (some u)) (fr : ∀ a o, H a = some o → a ∉ M → H1 a = some o) : StF K B W ρ σ H1 F := by
  obtain ⟨t1, t2⟩ := frame_tups (fun x hx => (hM x hx).2.2) fr
  have nF : ∀ {k a}, a ∈ F k → a ∉ M := fun {k a} h m => (hM a m).2.1 k h
  have hh : Same (Hide H (UF (fun a => W a ∨ a ∈ M) F)) (Hide H1 (UF W F)) := fun a o h => by
    obtain ⟨n, h⟩ := hide_some.mp h
    refine hide_some.mpr ⟨fun z => ?_, fr a o h fun m => n (.inl (.inr m))⟩
    rcases z with z | z
    · exact n (.inl (.inl z))
    · exact n (.inr z)
  refine ⟨fun a o h => ?_, s.len, s.nd, s.dj, s.fresh, fun i e h => ?_, s.out⟩
  · refine fr a o (s.same a o h) fun m => ?_
    rw [(hM a m).1] at h
    cases h
  · have E := s.ent i e h
    cases e with
    | un => exact E
    | fz d =>
      obtain ⟨a, v, b, c⟩ := E
      exact ⟨a, v, b, dp_sub hh _ _ c⟩
    | ow d =>
      obtain ⟨v, b, c⟩ := E
      exact ⟨v, b, own_mono t1 t2 _ _ _ c fun a ha o h => fr a o h (nF ha)⟩
    | al j p =>
      obtain ⟨a, v, w, d, d', b1, b2, b3, b4⟩ := E
      obtain ⟨v2, c1, c2⟩ := s.ent j _ b2
      rw [b3] at c1
      cases c1
      exact ⟨a, v, w, d, d', b1, b2, b3, at_frame b4 c2 t2 fun x hx o h => fr x o h (nF hx)⟩
    | vl v => exact E
    | sh ds =>
      obtain ⟨a, vs, b1, b2, b3, b4⟩ := E
      exact ⟨a, vs, b1, b2, fr a _ b3 (nF (k := i) (by rw [b2]; exact List.mem_singleton.mpr rfl)), dps_sub hh _ _ b4⟩
    | ob u =>
      obtain ⟨a, b1, b2, b3, b4⟩ := E
      exact ⟨a, b1, b2, fr a _ b3 (nF (k := i) (by rw [b2]; exact List.mem_singleton.mpr rfl)), b4⟩
    | rt _ _ => exact E
    | im f =>
      obtain ⟨n, a, x1, x2⟩ := E
      exact ⟨n, a, x1, x2.trans hh⟩
    | io _ _ _ => exact E
end
def spO (K : PySem.W.Frag) (Pre : PyData → Prop) (Post : PyData → PyData → Prop) : Sp := fun vs H Q _ => ∃ v d S, vs = [v] ∧ OwnR K H v d S ∧ S.Nodup ∧ Pre d ∧ ∀ r v' H', Post d r → lf r = true → Same (Hide H (fun a => a ∈ S)) H' → Rp K H' v' r → Q v' H'
def bodyO (Post : PyData → Prop) : DEnds where
  nx := fun _ => Post .none
  rt := fun o => ∃ d, o = .fz d ∧ lf d = true ∧ Post d
section
variable {P0 : Program} {w : World} {K : PySem.W.Frag} {mg : Str → Option Value} {base : Heap}
def FnO (P0 : Program) (w : World) (K : PySem.W.Frag) (mg : Str → Option Value) (base : Heap) (x : Str) (k : Nat) (Pre : PyData → Prop) (Post : PyData → PyData → Prop) : Prop :=
  ∃ f fd ps, FnOk P0 w K mg base CX0 k f fd ps (spO K Pre Post) ∧ mg x = some (.ref f) ∧ PySem.W.keepIn K (.ref f) = true ∧ Binds K fd ps []
theorem st_startO {H : Hp} {N : List Str} {v : V} {d : PyData} {S : List Addr} {n : Nat} (h : OwnR K H v d S) (hS : S.Nodup) (hn : 1 + n ≤ N.length) : StF K (Hide H fun a => a ∈ S) (fun _ => False) (.ow d :: List.replicate n .un) (L2.start N [v]) H fun i => if i = 0 then S else [] := by
  refine ⟨hide_sub, ?_, fun i => ?_, fun i j a h1 h2 => ?_, fun i a h1 => ?_, fun i e h1 => ?_, fun i h1 => ?_⟩
  · unfold L2.start
    simp only [List.length_cons, List.length_replicate, List.map_cons, List.map_nil, List.length_append, List.length_nil]
    omega
  · split
    · exact hS
    · exact .nil
  · split at h1
    · split at h2
      · omega
      · cases h2
    · cases h1
  · split at h1
    · exact hide_none h1
    · cases h1
  · cases i with
    | zero =>
      cases h1
      exact ⟨v, rfl, h⟩
    | succ i =>
      rw [List.getElem?_cons_succ, List.getElem?_replicate] at h1
      split at h1
      · cases h1
        rfl
      · cases h1
  · split
    · rename_i h0
      rw [h0] at h1
      cases h1
    · rfl
theorem fn_O {x : Str} {st : Stmt} {N : List Str} {p : Str} {k : Nat} {Pre : PyData → Prop} {Post : PyData → PyData → Prop} (T : TxF K mg x st [p]) (S : FnScope N [p] (defScope st))
    (body : ∀ (f : Addr) (cdv : Value) (A : Around) (outer : List Env) (s : Shared) (H : Hp) (E : XK), Room k (A.deeper (envOfC x (defScope st) s.heap.objs.size f cdv)) → ∀ d, Pre d →
      SD (cxOf CX0 P0 w K mg base N x (defScope st) f cdv A outer s H E).nox (defBody st) (.ow d :: List.replicate (N.length - 1) .un) (bodyO (Post d))) : FnO P0 w K mg base x (k + 1) Pre Post := by
  obtain ⟨f, fd, F, hm, hbi⟩ := T
  refine ⟨f, fd, [p], ?_, hm, F.kp, hbi⟩
  refine F.ok S (fun vs H Q E ⟨v, d, S, h1, _⟩ => by rw [h1]; rfl) (fun cdv A outer s H vs Q E hr ⟨v, d, Sa, h1, h2, h3, h4, h5⟩ => ?_)
  subst h1
  refine ⟨_, pb_w, ?_⟩
  have hN : 1 ≤ N.length := by
    have e := S.pre
    have := congrArg List.length e
    rw [List.length_take] at this
    have h2 : [p].length = 1 := rfl
    omega
  have b := body f cdv A outer s H E hr d h4 (Hide H fun a => a ∈ Sa) (fun _ => False) (L2.start N [v]) H (fun a z => z.elim) ⟨_, st_startO h2 h3 (by omega)⟩
  refine wb_mono b (fun σ' H' ⟨ρ', ⟨F', s'⟩, q⟩ => h5 .none .non H' q rfl s'.same .non) (fun v H' ⟨e, o, r, d, q, hl, hp⟩ => ?_) (fun _ _ ⟨_, _, q⟩ => False.elim q) (fun _ _ ⟨_, _, q⟩ => False.elim q)
  subst q
  exact h5 d v H' hp hl e (dp_sub hide_sub _ _ r)
end
structure CallO (X : Cx) (x : Str) (Pre : PyData → Prop) (Post : PyData → PyData → Prop) : Prop where
  ex : ∃ (CX : CXT) (k : Nat) (f : Addr) (fd : FuncData) (ps : List Str), FnOk X.prog X.w X.K X.mg X.base CX k f fd ps (spO X.K Pre Post) ∧ Room k X.A ∧ X.mg x = some (.ref f) ∧ PySem.W.keepIn X.K (.ref f) = true ∧
    Binds X.K fd ps [] ∧ ∀ (Y : Cx), Y.prog = X.prog → Y.w = X.w → Passes CX Y E0
theorem callO {X : Cx} {x : Str} {Pre : PyData → Prop} {Post : PyData → PyData → Prop} {k k' : Nat} (G : FnO X.prog X.w X.K X.mg X.base x k Pre Post) (hr : Room k' X.A) (hk : k ≤ k' := by decide) : CallO X x Pre Post := by
  obtain ⟨f, fd, ps, G, hm, hp, hb⟩ := G
  exact ⟨CX0, k, f, fd, ps, G, hr.mono hk, hm, hp, hb, fun Y _ _ => pass0⟩
section
variable {X : Cx} {ρ : DEnv} {D : DEnds} {a b c e : Expr} {es rest : List Expr} {pos p : Pos} {x : Str} {ks : List Nat}
theorem rs_callO {Pre : PyData → Prop} {Post : PyData → PyData → Prop} {Q : PyData → DEnv → Prop} (C : CallO X x Pre Post) (h : RM X a ρ ks fun d => Pre d ∧ ∀ r, Post d r → Q r (unVs ρ ks)) (hnd : ks.Nodup := by decide) (hg : Gl X x := by rfl)
    (hdb : (x == ("__debug__" : Str)) = false := by decide) (he : starEach [a] X.env = (false, eval a X.env) :: starEach [] X.env := by rfl) (hpl : (backTo pos (starEach [] X.env)).any (·.1) = false := by rfl) : RS X (.Call (.Name x p) [a] [] pos) ρ Q := fun B W σ H F hW s => by
  obtain ⟨CX, k, f, fd, ps, G, hr, hm, hk, hb, hx⟩ := C.ex
  refine we_of (pe_call G hr hg hm hk hb .nil (hx X rfl rfl) (pa_cons pe_w pa_nil he) hdb he hpl) (we_mono (h B W σ H F hW s) fun v H1 ⟨e1, d, S, o, n, fr, hp, q⟩ => ?_)
  have s0 : StF X.K B (fun a => W a ∨ a ∈ ([] : List Addr)) ρ σ H F := by
    have e : (fun a => W a ∨ a ∈ ([] : List Addr)) = W := funext fun a => propext ⟨fun z => z.elim id fun z => (by cases z), .inl⟩
    rw [e]
    exact s
  obtain ⟨F', M', s', hM', _, hin, hout⟩ := st_uns ks s0 (fun x hx => by cases hx) hnd
  show spO X.K Pre Post [v] H1 _ E0
  refine ⟨v, d, S, rfl, o, n, hp, fun r v' H' h1 hl e2 r1 => ?_⟩
  refine ⟨r, unVs ρ ks, hl, r1, ⟨F', st_frame s' hM' fun x u hx hxM => e2 x u (hide_some.mpr ⟨fun hS => ?_, e1 x u hx⟩)⟩, q r h1⟩
  rcases fr x hS with z | ⟨k, hk, z⟩
  · rw [hx] at z
    cases z
  · exact hxM (hin k hk x z)
/-! ### tests that change the state -/
def RTS (X : Cx) (e : Expr) (ρ : DEnv) (Q : Bool → DEnv → Prop) : Prop := ∀ (B : Hp) (W : Addr → Prop) (σ : L2.St) (H : Hp) (F : Nat → List Addr), MutU W B → StF X.K B W ρ σ H F → WT X e σ H fun b H' => ∃ ρ', StD X.K B W ρ' σ H' ∧ Q b ρ'
theorem rts_val {Q : Bool → DEnv → Prop} (h : RS X a ρ fun d ρ' => ∃ c, d = .bool c ∧ Q c ρ') (he : ∀ whole, isTrue a X.env whole = (do let v ← whole; standAt a.pos; holding [v] (truthy v)) := by intro _; rfl) : RTS X a ρ Q := fun B W σ H F hW s =>
  wt_of (pt_val pe_w he) (we_mono (h B W σ H F hW s) fun v H' ⟨d, ρ', _, p, s', c, e, q⟩ => by
    subst e
    cases p
    exact ⟨c, rfl, ρ', s', q⟩)
theorem rts_not {Q : Bool → DEnv → Prop} (h : RTS X a ρ fun r ρ' => Q (!r) ρ') : RTS X (.UnaryOp .Not a pos) ρ Q := fun B W σ H F hW s =>
  wt_of (pt_not pt_w) (wt_mono (h B W σ H F hW s) fun b H' q => q)
theorem rts_or2 {Q : Bool → DEnv → Prop} (h : RT X a ρ fun r => r = false) (h2 : RTS X b ρ Q) : RTS X (.BoolOp .Or [a, b] pos) ρ Q := fun B W σ H F hW s => by
  refine wt_of (pw_or pt_w (pw_or1 pt_w)).pt (wt_mono (h _ σ H (s.mut hW) s.env) fun r H1 ⟨e1, e⟩ => ?_)
  subst e
  exact iteF (h2 B W σ H1 F hW (s.mono e1))
theorem s_ifS {a b : List Stmt} (h : RTS X c ρ fun r ρ' => (r = true → SD X a ρ' D) ∧ (r = false → SD X b ρ' D)) : S1 X (.If c a b pos) ρ D := fun B W σ H hW ⟨F, s⟩ => by
  refine ws_of (ps_if pt_w pb_w pb_w) (wt_mono (h B W σ H F hW s) fun r H' ⟨ρ', s', q1, q2⟩ => ?_)
  cases r with
  | true => exact iteT (q1 rfl B W σ H' hW s')
  | false => exact iteF (q2 rfl B W σ H' hW s')
end
end DL
namespace DL
open PySem PySem.Spec PyProof.Rows L2
/-! ### lists of fractions -/
theorem rgC2 {n : Nat} (h : n < 64) : RgC 0 (n : Int) 2 ((n + 1) / 2) := by
  have key : ∀ j : Fin 64, Builtin.Range.small 0 (j.val : Int) 2 = true ∧ Builtin.Range.rangeSize 0 (j.val : Int) 2 = (((j.val + 1) / 2 : Nat) : Int) := by decide +kernel
  have k := key ⟨n, h⟩
  exact ⟨by decide, by decide, k.1, k.2⟩
def bigL : Nat := 2329089562800
def lcmUp : Nat → Nat
  | 0 => 1
  | k + 1 => Nat.lcm (lcmUp k) (k + 2)
theorem lcmUp29 : lcmUp 29 = bigL := by decide +kernel
theorem lcmUp_dvd (k : Nat) (h : k ≤ 29) : lcmUp k ∣ bigL := by
  rw [← lcmUp29]
  have key : ∀ j, lcmUp k ∣ lcmUp (k + j) := fun j => by
    induction j with
    | zero => exact Nat.dvd_refl _
    | succ j ih => exact Nat.dvd_trans ih (Nat.dvd_lcm_left ..)
  have := key (29 - k)
  rw [show k + (29 - k) = 29 by omega] at this
  exact this
theorem lcmUp_pos : ∀ k, 0 < lcmUp k
  | 0 => Nat.one_pos
  | k + 1 => Nat.lcm_pos (lcmUp_pos k) (Nat.succ_pos _)
theorem den30 {d : Nat} (h0 : 0 < d) (h : d ≤ 30) : d ∣ bigL := by
  have key : ∀ j : Fin 31, 0 < j.val → bigL % j.val = 0 := by decide +kernel
  exact Nat.dvd_of_mod_eq_zero (key ⟨d, by omega⟩ h0)
/-- a list of fractions of the law -/
structure FrsOk (qs : List Rat) : Prop where
  d : ∀ q ∈ qs, q.den ≤ 30
  n : ∀ q ∈ qs, q.num.natAbs ≤ 10 ^ 30
  l : qs.length ≤ 3000
section
variable {qs : List Rat}
theorem FrsOk.on (F : FrsOk qs) {q : Rat} (h : q ∈ qs) : q.den ∣ bigL := den30 q.den_pos (F.d q h)
theorem FrsOk.sm (F : FrsOk qs) {q : Rat} (h : q ∈ qs) : SmQ q :=
  ⟨Nat.lt_of_le_of_lt (F.n q h) (Nat.lt_of_lt_of_le (show 10 ^ 30 < 2 ^ 100 by decide) (Nat.pow_le_pow_right (by decide) (by decide))), Nat.lt_of_le_of_lt (F.d q h) (Nat.lt_of_lt_of_le (show 30 < 2 ^ 5 by decide) (Nat.pow_le_pow_right (by decide) (by decide)))⟩
theorem q_abs {q : Rat} {b : Nat} (h : q.num.natAbs ≤ b) : -((b : Nat) : Rat) ≤ q ∧ q ≤ ((b : Nat) : Rat) := by
  have hd := q.den_pos
  have h1 : q.num ≤ (b : Int) := by omega
  have h2 : -(b : Int) ≤ q.num := by omega
  have hdr : (1 : Rat) ≤ ((q.den : Nat) : Rat) := by
    have := Rat.natCast_le_natCast.mpr (show 1 ≤ q.den by omega)
    exact this
  have hq := q_num q
  have r1 : ((q.num : Int) : Rat) ≤ ((b : Nat) : Rat) := by rw [← Rat.intCast_natCast]; exact Rat.intCast_le_intCast.mpr h1
  have r2 : -((b : Nat) : Rat) ≤ ((q.num : Int) : Rat) := by
    rw [← Rat.intCast_natCast, ← Rat.intCast_neg]; exact Rat.intCast_le_intCast.mpr h2
  have hb : (0 : Rat) ≤ ((b : Nat) : Rat) := Rat.natCast_nonneg
  have hd0 : (0 : Rat) < ((q.den : Nat) : Rat) := rat_natpos hd
  have hbd : ((b : Nat) : Rat) ≤ ((b : Nat) : Rat) * ((q.den : Nat) : Rat) := by
    have := Rat.mul_le_mul_of_nonneg_left hdr hb
    rw [Rat.mul_one] at this
    exact this
  rw [hq] at r1 r2
  constructor
  · refine Rat.not_lt.mp fun z => ?_
    have := Rat.mul_lt_mul_of_pos_right z hd0
    grind
  · refine Rat.not_lt.mp fun z => ?_
    have := Rat.mul_lt_mul_of_pos_right z hd0
    grind
theorem sumQ_abs {b : Rat} (hb : 0 ≤ b) : ∀ {xs : List Rat}, (∀ q ∈ xs, -b ≤ q ∧ q ≤ b) → -(((xs.length : Nat) : Rat) * b) ≤ sumQ xs ∧ sumQ xs ≤ ((xs.length : Nat) : Rat) * b
  | [], _ => by
    show -(((0 : Nat) : Rat) * b) ≤ 0 ∧ 0 ≤ ((0 : Nat) : Rat) * b
    rw [show ((0 : Nat) : Rat) = 0 from rfl, Rat.zero_mul]
    exact ⟨by grind, Rat.le_refl⟩
  | q :: xs, h => by
    have h1 := h q (List.mem_cons_self ..)
    have h2 := sumQ_abs hb fun x hx => h x (List.mem_cons_of_mem _ hx)
    show -((((xs.length + 1 : Nat)) : Rat) * b) ≤ q + sumQ xs ∧ q + sumQ xs ≤ (((xs.length + 1 : Nat)) : Rat) * b
    rw [Rat.natCast_add, show ((1 : Nat) : Rat) = 1 from rfl]
    constructor <;> grind
theorem FrsOk.sub (F : FrsOk qs) {xs : List Rat} (hx : ∀ x ∈ xs, x ∈ qs) (hl : xs.length ≤ 3000) : SmQ (sumQ xs) := by
  have hD : OnD bigL (sumQ xs) := sumQ_onD fun q hq => onD_den (F.on (hx q hq))
  have hb := sumQ_abs (b := (((10 ^ 30 : Nat)) : Rat)) Rat.natCast_nonneg (xs := xs) fun q hq => q_abs (F.n q (hx q hq))
  have hm : ((xs.length : Nat) : Rat) * ((10 ^ 30 : Nat) : Rat) ≤ ((3000 * 10 ^ 30 : Nat) : Rat) := by
    rw [← Rat.natCast_mul]
    exact Rat.natCast_le_natCast.mpr (Nat.mul_le_mul_right _ hl)
  refine smQ_of (M := 3000 * 10 ^ 30) hD (by decide) (Nat.lt_of_lt_of_le (show bigL < 2 ^ 60 by decide) (Nat.pow_le_pow_right (by decide) (by decide))) (Nat.lt_of_lt_of_le (show 3000 * 10 ^ 30 < 2 ^ 130 by decide) (Nat.pow_le_pow_right (by decide) (by decide))) ?_ ?_
  · grind
  · grind
theorem sumQ_toI : ∀ {xs : List Rat}, (∀ q ∈ xs, q.den ∣ bigL) → (((xs.map (toI bigL)).sum : Int) : Rat) = sumQ xs * ((bigL : Nat) : Rat)
  | [], _ => (Rat.zero_mul _).symm
  | q :: xs, h => by
    rw [List.map_cons, List.sum_cons, Rat.intCast_add, sumQ_toI fun x hx => h x (List.mem_cons_of_mem _ hx), toI_cast (onD_den (h q (List.mem_cons_self ..)))]
    show _ = (q + sumQ xs) * _
    grind
theorem sumQ_rev (xs : List Rat) : sumQ xs.reverse = sumQ xs := by
  induction xs with
  | nil => rfl
  | cons x xs ih =>
    rw [List.reverse_cons, sumQ_app, ih]
    show sumQ xs + (x + 0) = x + sumQ xs
    grind
def lcmD (qs : List Rat) : Nat := lcmL (qs.map (·.den))
theorem lcmD_dvd (F : FrsOk qs) : lcmD qs ∣ bigL := lcmL_least fun n hn => by
  obtain ⟨q, hq, rfl⟩ := List.mem_map.mp hn
  exact F.on hq
theorem lcmD_of {q : Rat} (h : q ∈ qs) : q.den ∣ lcmD qs := lcmL_dvd (List.mem_map_of_mem h)
theorem lcmD_pos (qs : List Rat) : 0 < lcmD qs := lcmL_pos fun n hn => by
  obtain ⟨q, _, rfl⟩ := List.mem_map.mp hn
  exact q.den_pos
theorem lcmD_min {p : Nat} (hp : 1 < p) (hd : p ∣ lcmD qs) : ∃ q ∈ qs, ¬ q.den ∣ lcmD qs / p := by
  refine Decidable.byContradiction fun h => ?_
  have h1 : lcmD qs ∣ lcmD qs / p := lcmL_least fun n hn => by
    obtain ⟨q, hq, rfl⟩ := List.mem_map.mp hn
    refine Decidable.byContradiction fun z => h ⟨q, hq, z⟩
  have h0 := lcmD_pos qs
  have h2 : 0 < lcmD qs / p := Nat.div_pos (Nat.le_of_dvd h0 hd) (by omega)
  have h3 := Nat.le_of_dvd h2 h1
  have h4 := Nat.div_lt_self h0 hp
  omega
theorem lcmD_rev (qs : List Rat) : lcmD qs.reverse = lcmD qs := lcmL_mem fun n => by
  rw [List.map_reverse, List.mem_reverse]
end
def primes : List Nat := [2, 3, 5, 7, 11, 13, 17, 19, 23, 29]
theorem rest_one {r : Nat} (h : r ∣ bigL) (hp : ∀ p ∈ primes, ¬ p ∣ r) : r = 1 := by
  have cop : ∀ p ∈ primes, Nat.gcd r p = 1 := fun p hm => by
    have hdiv : ∀ p ∈ primes, ∀ d : Fin 30, p % d.val = 0 → d.val = 1 ∨ d.val = p := by decide +kernel
    have hle : ∀ p ∈ primes, 0 < p ∧ p < 30 := by decide
    have hg := Nat.gcd_dvd_right r p
    have hgl := Nat.le_of_dvd (hle p hm).1 hg
    rcases hdiv p hm ⟨Nat.gcd r p, by have := (hle p hm).2; omega⟩ (Nat.mod_eq_zero_of_dvd hg) with e | e
    · exact e
    · exact absurd (by rw [← show Nat.gcd r p = p from e]; exact Nat.gcd_dvd_left r p) (hp p hm)
  have hL : bigL = 2 * (2 * (2 * (2 * (3 * (3 * (3 * (5 * (5 * (7 * (11 * (13 * (17 * (19 * (23 * 29)))))))))))))) := by decide
  have c2 : Nat.Coprime r 2 := cop 2 (by decide)
  have c3 : Nat.Coprime r 3 := cop 3 (by decide)
  have c5 : Nat.Coprime r 5 := cop 5 (by decide)
  have : Nat.Coprime r bigL := by
    rw [hL]
    exact c2.mul_right (c2.mul_right (c2.mul_right (c2.mul_right (c3.mul_right (c3.mul_right (c3.mul_right (c5.mul_right (c5.mul_right ((show Nat.Coprime r 7 from cop 7 (by decide)).mul_right ((show Nat.Coprime r 11 from cop 11 (by decide)).mul_right ((show Nat.Coprime r 13 from cop 13 (by decide)).mul_right ((show Nat.Coprime r 17 from cop 17 (by decide)).mul_right ((show Nat.Coprime r 19 from cop 19 (by decide)).mul_right ((show Nat.Coprime r 23 from cop 23 (by decide)).mul_right (show Nat.Coprime r 29 from cop 29 (by decide))))))))))))))))
  have e := Nat.gcd_eq_left h
  rw [← e]
  exact this
end DL
namespace DL
open PySem PySem.Spec PyProof.Rows L2
theorem cmulW_k {j : Int} {k : Int} (h : j.natAbs < 2 ^ 64 := by decide) (h2 : k.natAbs < 2 ^ 200 := by decide) : CMulW j k := (sm_lt (i := j) (by
  have : (2 : Nat) ^ 64 ≤ 2 ^ 200 := Nat.pow_le_pow_right (by decide) (by decide)
  omega)).mul (sm_lt (by omega))
end DL
namespace DL
open PySem PySem.Spec PyProof.Rows L2
/-! ### a list on its way to another one -/
def mixG {α : Type} (Z s : List α) (k : Nat) : List α := Z.take k ++ s.drop k
section
variable {α : Type} {Z s : List α}
theorem mixG_len (h : Z.length = s.length) (k : Nat) : (mixG Z s k).length = s.length := by
  unfold mixG
  rw [List.length_append, List.length_take, List.length_drop]
  omega
theorem mixG_get (h : Z.length = s.length) {k : Nat} (hk : k < s.length) : (mixG Z s k)[k]? = s[k]? := by
  unfold mixG
  rw [List.getElem?_append_right (by rw [List.length_take]; omega), List.length_take, List.getElem?_drop]
  congr 1
  omega
theorem mixG_succ (h : Z.length = s.length) {k : Nat} {z : α} (hz : Z[k]? = some z) : mixG Z s (k + 1) = (mixG Z s k).set k z := by
  obtain ⟨hk, hz'⟩ := List.getElem?_eq_some_iff.mp hz
  apply List.ext_getElem?
  intro i
  unfold mixG
  by_cases hi : i = k
  · subst hi
    rw [List.getElem?_set_self (by rw [List.length_append, List.length_take, List.length_drop]; omega), List.getElem?_append_left (by rw [List.length_take]; omega), List.getElem?_take_of_lt (by omega), hz]
  · rw [List.getElem?_set_ne (by omega)]
    by_cases h1 : i < k
    · rw [List.getElem?_append_left (by rw [List.length_take]; omega), List.getElem?_append_left (by rw [List.length_take]; omega), List.getElem?_take_of_lt (by omega), List.getElem?_take_of_lt h1]
    · rw [List.getElem?_append_right (by rw [List.length_take]; omega), List.getElem?_append_right (by rw [List.length_take]; omega), List.length_take, List.length_take, List.getElem?_drop, List.getElem?_drop]
      congr 1
      omega
theorem mixG_all (h : Z.length = s.length) : mixG Z s s.length = Z := by
  unfold mixG
  rw [List.drop_length, List.append_nil, ← h, List.take_length]
end
/-! ### mixes of deals with weights -/
abbrev MixE := Rat × List Int
abbrev mixEntD (m : MixE) : PyData := .tuple [frQ m.1, numsD m.2]
abbrev mixQD (ms : List MixE) : PyData := .list (ms.map mixEntD)
def mixStep (rows : List (List Rat)) (m : MixE) : List (List Rat) := List.zipWith (addRow m.1) rows m.2
def sharesTo (n a : Nat) (ms : List MixE) : List (List Rat) := ms.foldl mixStep (List.replicate a (List.replicate (n + 1) 0))
structure MixOkQ (n a T : Nat) (ms : List MixE) : Prop where
  dl : ∀ m ∈ ms, m.2.length = a ∧ ∀ x ∈ m.2, 0 ≤ x ∧ x ≤ (n : Int)
  w : ∀ m ∈ ms, OnD T m.1 ∧ 0 ≤ m.1
  tot : sumQ (ms.map (·.1)) ≤ 1
  T0 : 0 < T
  T1 : T < 2 ^ 1900
def wSum (ms : List MixE) (i : Nat) (x : Int) : Rat := sumQ ((ms.filter fun m => decide (m.2.getD i 0 = x)).map (·.1))
theorem wSum_snoc (ms : List MixE) (m : MixE) (i : Nat) (x : Int) : wSum (ms ++ [m]) i x = wSum ms i x + if x = m.2.getD i 0 then m.1 else 0 := by
  unfold wSum
  rw [List.filter_append, List.map_append, sumQ_app]
  congr 1
  by_cases h : x = m.2.getD i 0
  · rw [if_pos h, List.filter_cons_of_pos (by simpa using h.symm)]
    exact Rat.add_zero _
  · rw [if_neg h, List.filter_cons_of_neg (by simpa using fun z => h z.symm)]
    rfl
theorem wSum_bd {n a T : Nat} {ms : List MixE} (M : MixOkQ n a T ms) (k : Nat) (i : Nat) (x : Int) : OnD T (wSum (ms.take k) i x) ∧ 0 ≤ wSum (ms.take k) i x ∧ wSum (ms.take k) i x ≤ 1 := by
  have hw : ∀ m ∈ ms.take k, OnD T m.1 ∧ 0 ≤ m.1 := fun m hm => M.w m (List.mem_of_mem_take hm)
  have hsub : ∀ (l : List MixE), (∀ m ∈ l, 0 ≤ m.1) → wSum l i x ≤ sumQ (l.map (·.1)) := fun l => by
    induction l with
    | nil => intro _; exact Rat.le_refl
    | cons m l ih =>
      intro h
      have h1 := ih fun y hy => h y (List.mem_cons_of_mem _ hy)
      have h0 := h m (List.mem_cons_self ..)
      show sumQ (((m :: l).filter _).map _) ≤ m.1 + sumQ (l.map (·.1))
      by_cases hm : m.2.getD i 0 = x
      · rw [List.filter_cons_of_pos (by simpa using hm)]
        show m.1 + wSum l i x ≤ _
        grind
      · rw [List.filter_cons_of_neg (by simpa using hm)]
        show wSum l i x ≤ _
        grind
  refine ⟨sumQ_onD fun q hq => ?_, sumQ_nn fun q hq => ?_, ?_⟩
  · obtain ⟨m, hm, rfl⟩ := List.mem_map.mp hq
    exact (hw m (List.mem_filter.mp hm).1).1
  · obtain ⟨m, hm, rfl⟩ := List.mem_map.mp hq
    exact (hw m (List.mem_filter.mp hm).1).2
  · have h1 := hsub _ fun m hm => (hw m hm).2
    have h2 := (sumQ_take_le (qs := ms.map (·.1)) (fun q hq => by
      obtain ⟨m, hm, rfl⟩ := List.mem_map.mp hq
      exact (M.w m hm).2) k).2
    rw [List.map_take] at h1
    have h3 := M.tot
    grind
theorem wSum_sm {n a T : Nat} {ms : List MixE} (M : MixOkQ n a T ms) (k : Nat) (i : Nat) (x : Int) : SmQ (wSum (ms.take k) i x) := by
  obtain ⟨h1, h2, h3⟩ := wSum_bd M k i x
  exact smQ_of (M := 1) h1 M.T0 (Nat.lt_trans M.T1 (Nat.pow_lt_pow_right (by decide) (by decide))) (Nat.one_lt_two_pow (by decide)) (by have : (((1 : Nat)) : Rat) = 1 := rfl; rw [this]; grind) (by have : (((1 : Nat)) : Rat) = 1 := rfl; rw [this]; exact h3)
theorem MixOkQ.wsm {n a T : Nat} {ms : List MixE} (M : MixOkQ n a T ms) {m : MixE} (hm : m ∈ ms) : SmQ m.1 := by
  obtain ⟨h1, h2⟩ := M.w m hm
  have h3 : m.1 ≤ 1 := by
    have : ∀ l : List MixE, (∀ y ∈ l, 0 ≤ y.1) → ∀ y ∈ l, y.1 ≤ sumQ (l.map (·.1)) := fun l => by
      induction l with
      | nil => intro _ y hy; cases hy
      | cons z l ih =>
        intro h y hy
        have h0 := h z (List.mem_cons_self ..)
        have hl := sumQ_nn (qs := l.map (·.1)) fun q hq => by
          obtain ⟨m, hm, rfl⟩ := List.mem_map.mp hq
          exact h m (List.mem_cons_of_mem _ hm)
        show y.1 ≤ z.1 + sumQ (l.map (·.1))
        rcases List.mem_cons.mp hy with rfl | hy
        · grind
        · have := ih (fun y hy => h y (List.mem_cons_of_mem _ hy)) y hy
          grind
    have := this ms (fun y hy => (M.w y hy).2) m hm
    have := M.tot
    grind
  exact smQ_of (M := 1) h1 M.T0 (Nat.lt_trans M.T1 (Nat.pow_lt_pow_right (by decide) (by decide))) (Nat.one_lt_two_pow (by decide)) (by have : (((1 : Nat)) : Rat) = 1 := rfl; rw [this]; grind) (by have : (((1 : Nat)) : Rat) = 1 := rfl; rw [this]; exact h3)
theorem sharesTo_succ {n a : Nat} {ms : List MixE} {k : Nat} {m : MixE} (h : ms[k]? = some m) : sharesTo n a (ms.take (k + 1)) = mixStep (sharesTo n a (ms.take k)) m := by
  unfold sharesTo
  rw [List.take_succ, h, List.foldl_append]
  rfl
theorem sharesTo_at {n a T : Nat} {ms : List MixE} (M : MixOkQ n a T ms) : ∀ k, k ≤ ms.length → (sharesTo n a (ms.take k)).length = a ∧ ∀ (i : Nat) row, (sharesTo n a (ms.take k))[i]? = some row → row.length = n + 1 ∧ ∀ x : Int, 0 ≤ x ∧ x ≤ (n : Int) → leftAt row x = wSum (ms.take k) i x
  | 0, _ => by
    refine ⟨List.length_replicate, fun i row h => ?_⟩
    have h : (List.replicate a (List.replicate (n + 1) (0 : Rat)))[i]? = some row := h
    rw [List.getElem?_replicate] at h
    split at h
    · cases h
      exact ⟨List.length_replicate, fun x _ => leftAt_rep0 x⟩
    · cases h
  | k + 1, hk => by
    obtain ⟨hl, ih⟩ := sharesTo_at M k (by omega)
    obtain ⟨m, hm⟩ : ∃ m, ms[k]? = some m := ⟨_, List.getElem?_eq_getElem (by omega)⟩
    obtain ⟨hdl, hdx⟩ := M.dl m (List.mem_of_getElem? hm)
    have hto : ms.take (k + 1) = ms.take k ++ [m] := by rw [List.take_succ, hm]; rfl
    rw [sharesTo_succ hm]
    refine ⟨by unfold mixStep; rw [List.length_zipWith, hl, hdl, Nat.min_self], fun i row h => ?_⟩
    unfold mixStep at h
    rw [List.getElem?_zipWith] at h
    cases h1 : (sharesTo n a (ms.take k))[i]? with
    | none => rw [h1] at h; simp at h
    | some r =>
      cases h2 : m.2[i]? with
      | none => rw [h1, h2] at h; simp at h
      | some y =>
        rw [h1, h2] at h
        cases (Option.some.inj h)
        obtain ⟨hrl, hrx⟩ := ih i r h1
        have hy := hdx y (List.mem_of_getElem? h2)
        refine ⟨by rw [addRow_len, hrl], fun x hx => ?_⟩
        rw [leftAt_addRow hy.1 (by omega) hx.1, hrx x hx, hto, wSum_snoc]
        have : m.2.getD i 0 = y := by rw [List.getD_eq_getElem?_getD, h2]; rfl
        rw [this]
theorem sharesTo_eq {n a T T' : Nat} {ms ms' : List MixE} (M : MixOkQ n a T ms) (M' : MixOkQ n a T' ms') (h : ∀ (i : Nat) (x : Int), i < a → 0 ≤ x → x ≤ (n : Int) → wSum ms i x = wSum ms' i x) : sharesTo n a ms = sharesTo n a ms' := by
  obtain ⟨l1, a1⟩ := sharesTo_at M ms.length (Nat.le_refl _)
  obtain ⟨l2, a2⟩ := sharesTo_at M' ms'.length (Nat.le_refl _)
  rw [List.take_length] at l1 a1 l2 a2
  refine List.ext_getElem? fun i => ?_
  by_cases hi : i < a
  · obtain ⟨r, hr⟩ : ∃ r, (sharesTo n a ms)[i]? = some r := ⟨_, List.getElem?_eq_getElem (by omega)⟩
    obtain ⟨r', hr'⟩ : ∃ r, (sharesTo n a ms')[i]? = some r := ⟨_, List.getElem?_eq_getElem (by omega)⟩
    rw [hr, hr']
    obtain ⟨e1, e2⟩ := a1 i r hr
    obtain ⟨f1, f2⟩ := a2 i r' hr'
    exact congrArg some (row_ext e1 f1 fun x hx => by rw [e2 x hx, f2 x hx, h i x hi hx.1 hx.2])
  · rw [List.getElem?_eq_none (by omega), List.getElem?_eq_none (by omega)]
theorem wSum_rev (ms : List MixE) (i : Nat) (x : Int) : wSum ms.reverse i x = wSum ms i x := by
  unfold wSum
  rw [List.filter_reverse, List.map_reverse, sumQ_rev]
theorem MixOkQ.rev {n a T : Nat} {ms : List MixE} (M : MixOkQ n a T ms) : MixOkQ n a T ms.reverse :=
  ⟨fun m h => M.dl m (List.mem_reverse.mp h), fun m h => M.w m (List.mem_reverse.mp h), by rw [List.map_reverse, sumQ_rev]; exact M.tot, M.T0, M.T1⟩
/-- whole weights over their sum -/
def mixOfQ (ps : List Int) (dls : List (List Int)) : List MixE := (ps.zip dls).map fun z => (Rat.divInt z.1 ps.sum, z.2)
theorem wSum_div {W : Int} (hW : 0 < W) (i : Nat) (x : Int) : ∀ zs : List (Int × List Int), wSum (zs.map fun z => (Rat.divInt z.1 W, z.2)) i x * (W : Rat) = ((((zs.filter fun p => decide (p.2.getD i 0 = x)).map (·.1)).sum : Int) : Rat)
  | [] => by
    show (0 : Rat) * _ = _
    rw [Rat.zero_mul]
    rfl
  | z :: zs => by
    have ih := wSum_div hW i x zs
    rw [List.map_cons]
    unfold wSum at ih ⊢
    by_cases h : z.2.getD i 0 = x
    · rw [List.filter_cons_of_pos (by simpa using h), List.filter_cons_of_pos (by simpa using h), List.map_cons, List.map_cons, List.sum_cons, Rat.intCast_add, ← ih]
      show (Rat.divInt z.1 W + _) * _ = _
      rw [Rat.add_mul, divInt_mul hW]
    · rw [List.filter_cons_of_neg (by simpa using h), List.filter_cons_of_neg (by simpa using h)]
      exact ih
theorem sumQ_div {W : Int} (hW : 0 < W) : ∀ ps : List Int, sumQ (ps.map fun p => Rat.divInt p W) * (W : Rat) = ((ps.sum : Int) : Rat)
  | [] => by
    show (0 : Rat) * _ = _
    rw [Rat.zero_mul]
    rfl
  | p :: ps => by
    rw [List.map_cons, List.sum_cons, Rat.intCast_add, ← sumQ_div hW ps]
    show (Rat.divInt p W + _) * _ = _
    rw [Rat.add_mul, divInt_mul hW]
structure PartsOk (n a : Nat) (ps : List Int) (dls : List (List Int)) : Prop where
  len : ps.length = dls.length
  pos : 1 ≤ ps.length
  few : ps.length ≤ 200
  w : ∀ p ∈ ps, 1 ≤ p ∧ p ≤ 1000000000000000000000
  dl : ∀ d ∈ dls, d.length = a ∧ ∀ x ∈ d, 0 ≤ x ∧ x ≤ (n : Int)
theorem parts_sum : ∀ {ps : List Int}, (∀ p ∈ ps, 1 ≤ p ∧ p ≤ 1000000000000000000000) → (ps.length : Int) ≤ ps.sum ∧ ps.sum ≤ 1000000000000000000000 * ps.length
  | [], _ => ⟨Int.le_refl _, Int.le_refl _⟩
  | p :: ps, h => by
    have h1 := h p (List.mem_cons_self ..)
    have h2 := parts_sum fun x hx => h x (List.mem_cons_of_mem _ hx)
    simp only [List.sum_cons, List.length_cons]
    omega
theorem PartsOk.sum {n a : Nat} {ps : List Int} {dls : List (List Int)} (P : PartsOk n a ps dls) : 1 ≤ ps.sum ∧ ps.sum ≤ 200000000000000000000000 := by
  have := parts_sum P.w
  have := P.pos
  have := P.few
  omega
theorem PartsOk.mix {n a : Nat} {ps : List Int} {dls : List (List Int)} (P : PartsOk n a ps dls) : MixOkQ n a ps.sum.toNat (mixOfQ ps dls) := by
  have hs := P.sum
  have e : ((ps.sum.toNat : Nat) : Int) = ps.sum := by omega
  refine ⟨fun m hm => ?_, fun m hm => ?_, ?_, by omega, ?_⟩
  · obtain ⟨z, hz, rfl⟩ := List.mem_map.mp hm
    exact P.dl _ (List.of_mem_zip hz).2
  · obtain ⟨z, hz, rfl⟩ := List.mem_map.mp hm
    have hp := P.w _ (List.of_mem_zip hz).1
    refine ⟨⟨z.1, ?_⟩, ?_⟩
    · rw [← Rat.intCast_natCast, e]
      exact divInt_mul (by omega)
    · refine Rat.not_lt.mp fun y => ?_
      have hW : (0 : Rat) < ((ps.sum : Int) : Rat) := Rat.intCast_pos.mpr (by omega)
      have := Rat.mul_lt_mul_of_pos_right y hW
      rw [divInt_mul (by omega), Rat.zero_mul] at this
      have : z.1 < 0 := Rat.intCast_neg_iff.mp this
      omega
  · have h1 : (mixOfQ ps dls).map (·.1) = ps.map fun p => Rat.divInt p ps.sum := by
      unfold mixOfQ
      rw [List.map_map]
      have : ((ps.zip dls).map fun z => z.1) = ps := List.map_fst_zip (by rw [P.len]; exact Nat.le_refl _)
      rw [show ps.map (fun p => Rat.divInt p ps.sum) = ((ps.zip dls).map fun z => z.1).map fun p => Rat.divInt p ps.sum by rw [this], List.map_map]
      rfl
    rw [h1]
    have h2 := sumQ_div (W := ps.sum) (by omega) ps
    have hW : (0 : Rat) < ((ps.sum : Int) : Rat) := Rat.intCast_pos.mpr (by omega)
    refine Rat.not_lt.mp fun y => ?_
    have := Rat.mul_lt_mul_of_pos_right y hW
    rw [h2, Rat.one_mul] at this
    exact absurd this (Rat.lt_irrefl)
  · have : ps.sum.toNat ≤ 200000000000000000000000 := by omega
    exact Nat.lt_of_le_of_lt this (Nat.lt_of_lt_of_le (show 200000000000000000000000 < 2 ^ 100 by decide) (Nat.pow_le_pow_right (by decide) (by decide)))
theorem PartsOk.due {n a : Nat} {ps : List Int} {dls : List (List Int)} (P : PartsOk n a ps dls) : sharesTo n a (mixOfQ ps dls) = drawnQ ps dls a n := by
  have hs := P.sum
  obtain ⟨l1, a1⟩ := sharesTo_at P.mix (mixOfQ ps dls).length (Nat.le_refl _)
  rw [List.take_length] at l1 a1
  refine List.ext_getElem? fun i => ?_
  by_cases hi : i < a
  · obtain ⟨r, hr⟩ : ∃ r, (sharesTo n a (mixOfQ ps dls))[i]? = some r := ⟨_, List.getElem?_eq_getElem (by omega)⟩
    rw [hr]
    obtain ⟨e1, e2⟩ := a1 i r hr
    unfold drawnQ
    rw [List.getElem?_map, List.getElem?_range hi]
    refine congrArg some (row_ext (n := n) e1 (by rw [List.length_map, List.length_range]) fun x hx => ?_)
    rw [e2 x hx]
    have h1 : leftAt ((List.range (n + 1)).map fun (x : Nat) => Rat.divInt (drawnTop ps dls i (x : Int)) ps.sum) x = Rat.divInt (drawnTop ps dls i x) ps.sum := by
      unfold leftAt
      rw [List.getD_eq_getElem?_getD, List.getElem?_map, List.getElem?_range (by omega)]
      show Rat.divInt (drawnTop ps dls i ((x.toNat : Nat) : Int)) ps.sum = _
      rw [show ((x.toNat : Nat) : Int) = x by omega]
    rw [h1]
    have h2 := wSum_div (W := ps.sum) (by omega) i x (ps.zip dls)
    have e : ((ps.sum.toNat : Nat) : Int) = ps.sum := by omega
    have := divInt_of (z := drawnTop ps dls i x) (B := ps.sum.toNat) (q := wSum (mixOfQ ps dls) i x) (by omega) (by
      rw [← Rat.intCast_natCast, e]
      exact h2.symm)
    rw [e] at this
    exact this.symm
  · unfold drawnQ
    rw [List.getElem?_eq_none (by omega), List.getElem?_eq_none (by rw [List.length_map, List.length_range]; omega)]
end DL
namespace DL
open PySem PySem.Spec PyProof.Rows L2
theorem zip_mix (W : Int) : ∀ (ps : List Int) (dls : List (List Int)), ps.zip ((ps.zip dls).map fun z => ((Rat.divInt z.1 W, z.2) : MixE)) = (ps.zip dls).map fun z => (z.1, ((Rat.divInt z.1 W, z.2) : MixE))
  | [], _ => by simp
  | _ :: _, [] => by simp
  | p :: ps, d :: dls => by
    rw [List.zip_cons_cons, List.map_cons, List.zip_cons_cons, zip_mix W ps dls]
    rfl
theorem range_map_succ {α : Type} (f : Nat → α) (k : Nat) : (List.range (k + 1)).map f = (List.range k).map f ++ [f k] := by
  rw [List.range_succ, List.map_append]
  rfl
theorem frQ_of {top bot : Int} (h : 0 < bot) : PyData.tuple [.int (top / ((Int.gcd top bot : Nat) : Int)), .int (bot / ((Int.gcd top bot : Nat) : Int))] = frQ (Rat.divInt top bot) := by
  have := frac_pos (a := top) h
  rw [this.1, this.2]
theorem top_nn {ps : List Int} {dls : List (List Int)} (h : ∀ p ∈ ps, 0 ≤ p) (i : Nat) (x : Int) : 0 ≤ drawnTop ps dls i x := by
  unfold drawnTop
  have : ∀ l : List Int, (∀ y ∈ l, 0 ≤ y) → 0 ≤ l.sum := fun l => by
    induction l with
    | nil => intro _; exact Int.le_refl _
    | cons y l ih =>
      intro h
      have := h y (List.mem_cons_self ..)
      have := ih fun z hz => h z (List.mem_cons_of_mem _ hz)
      rw [List.sum_cons]
      omega
  refine this _ fun y hy => ?_
  obtain ⟨z, hz, rfl⟩ := List.mem_map.mp hy
  exact h _ (List.of_mem_zip (List.mem_filter.mp hz).1).1
end DL
namespace DL
open PySem PySem.Spec PyProof.Rows L2
theorem pl_mix (ms : List MixE) : Pl 60 (mixQD ms) := pl_list (n := 59) fun x hx => by
  obtain ⟨m, _, rfl⟩ := List.mem_map.mp hx
  refine pl_tup (n := 58) fun y hy => ?_
  simp only [List.mem_cons, List.not_mem_nil, or_false] at hy
  rcases hy with rfl | rfl
  · exact pl_fr (n := 57) (p := (m.1.num, (m.1.den : Int)))
  · exact pl_ints (n := 57)
end DL
namespace DL
open PySem PySem.Spec PyProof.Rows L2
/-! ### numbered otherwise -/
structure PermL (n : Nat) (th : List Int) : Prop where
  len : th.length = n
  nd : th.Nodup
  rg : ∀ x ∈ th, 0 ≤ x ∧ x < (n : Int)
theorem nodup_inj {xs : List Int} (h : xs.Nodup) {i j : Nat} {v : Int} (hi : xs[i]? = some v) (hj : xs[j]? = some v) : i = j := by
  have p := List.pairwise_iff_getElem.mp h
  obtain ⟨a, ea⟩ := List.getElem?_eq_some_iff.mp hi
  obtain ⟨b, eb⟩ := List.getElem?_eq_some_iff.mp hj
  rcases Nat.lt_trichotomy i j with l | l | l
  · exact absurd (ea.trans eb.symm) (p i j a b l)
  · exact l
  · exact absurd (eb.trans ea.symm) (p j i b a l)
theorem nodup_mapL {f : Int → Int} : ∀ {l : List Int}, l.Nodup → (∀ x ∈ l, ∀ y ∈ l, f x = f y → x = y) → (l.map f).Nodup
  | [], _, _ => .nil
  | x :: l, h, hf => by
    obtain ⟨h1, h2⟩ := List.nodup_cons.mp h
    rw [List.map_cons]
    refine List.nodup_cons.mpr ⟨fun hm => ?_, nodup_mapL h2 fun a ha b hb => hf a (List.mem_cons_of_mem _ ha) b (List.mem_cons_of_mem _ hb)⟩
    obtain ⟨y, hy, e⟩ := List.mem_map.mp hm
    exact h1 (by rw [hf x (List.mem_cons_self ..) y (List.mem_cons_of_mem _ hy) e.symm]; exact hy)
def sig (th : List Int) (x : Int) : Int := (th ++ [(th.length : Int)]).getD x.toNat 0
section
variable {n : Nat} {th : List Int}
theorem PermL.all (P : PermL n th) {y : Int} (h : 0 ≤ y ∧ y < (n : Int)) : y ∈ th := by
  refine Decidable.byContradiction fun hy => ?_
  have := nodup_le (o := y :: th) (n := n) (List.nodup_cons.mpr ⟨hy, P.nd⟩) (fun x hx => by
    rcases List.mem_cons.mp hx with rfl | hx
    · exact h
    · exact P.rg x hx)
  rw [List.length_cons, P.len] at this
  omega
theorem PermL.perm (P : PermL n th) : th.Perm (rng n) := (List.perm_ext_iff_of_nodup P.nd (rng_nodup n)).mpr fun y => ⟨fun h => rng_mem.mpr (P.rg y h), fun h => P.all (rng_mem.mp h)⟩
theorem sig_lt (P : PermL n th) {x : Int} (h : 0 ≤ x ∧ x < (n : Int)) : sig th x = th.getD x.toNat 0 ∧ 0 ≤ sig th x ∧ sig th x < (n : Int) := by
  have hk : x.toNat < th.length := by rw [P.len]; omega
  have e : sig th x = th.getD x.toNat 0 := by
    unfold sig
    rw [List.getD_eq_getElem?_getD, List.getD_eq_getElem?_getD, List.getElem?_append_left hk]
  rw [e]
  have := P.rg _ (mem_getD hk)
  exact ⟨rfl, this⟩
theorem sig_n (P : PermL n th) : sig th (n : Int) = (n : Int) := by
  unfold sig
  rw [List.getD_eq_getElem?_getD, Int.toNat_natCast, List.getElem?_append_right (by rw [P.len]; exact Nat.le_refl _), P.len, Nat.sub_self]
  rfl
theorem sig_rg (P : PermL n th) {x : Int} (h : 0 ≤ x ∧ x ≤ (n : Int)) : 0 ≤ sig th x ∧ sig th x ≤ (n : Int) ∧ (sig th x = (n : Int) ↔ x = (n : Int)) := by
  by_cases hx : x = (n : Int)
  · rw [hx, sig_n P]
    omega
  · have := sig_lt P ⟨h.1, by omega⟩
    omega
theorem sig_inj (P : PermL n th) {x y : Int} (hx : 0 ≤ x ∧ x ≤ (n : Int)) (hy : 0 ≤ y ∧ y ≤ (n : Int)) (h : sig th x = sig th y) : x = y := by
  by_cases hxn : x = (n : Int)
  · rw [hxn, sig_n P] at h
    exact hxn.trans ((sig_rg P hy).2.2.mp h.symm).symm
  · by_cases hyn : y = (n : Int)
    · rw [hyn, sig_n P] at h
      exact absurd ((sig_rg P hx).2.2.mp h) hxn
    · have e1 := (sig_lt P ⟨hx.1, by omega⟩).1
      have e2 := (sig_lt P ⟨hy.1, by omega⟩).1
      rw [e1, e2] at h
      have k1 : x.toNat < th.length := by rw [P.len]; omega
      have k2 : y.toNat < th.length := by rw [P.len]; omega
      have g1 : th[x.toNat]? = some (th.getD x.toNat 0) := by rw [List.getD_eq_getElem?_getD, List.getElem?_eq_getElem k1]; rfl
      have g2 : th[y.toNat]? = some (th.getD y.toNat 0) := by rw [List.getD_eq_getElem?_getD, List.getElem?_eq_getElem k2]; rfl
      rw [← h] at g2
      have := nodup_inj P.nd g1 g2
      omega
theorem sig_onto (P : PermL n th) {y : Int} (h : 0 ≤ y ∧ y < (n : Int)) : ∃ x, 0 ≤ x ∧ x < (n : Int) ∧ sig th x = y := by
  obtain ⟨k, hk⟩ := List.mem_iff_getElem?.mp (P.all h)
  have hkl := (List.getElem?_eq_some_iff.mp hk).1
  rw [P.len] at hkl
  refine ⟨(k : Int), by omega, by omega, ?_⟩
  rw [(sig_lt P (x := (k : Int)) ⟨by omega, by omega⟩).1, Int.toNat_natCast, List.getD_eq_getElem?_getD, hk]
  rfl
end
theorem leastQ_set {q : Rat} {xs ys : List Rat} (h : ∀ x, x ∈ xs ↔ x ∈ ys) : leastQ q xs = leastQ q ys := by
  have m1 := leastQ_mem xs q
  have m2 := leastQ_mem ys q
  have h1 : leastQ q ys ≤ leastQ q xs := leastQ_le ys q _ (by
    rcases List.mem_cons.mp m1 with e | e
    · rw [e]; exact List.mem_cons_self ..
    · exact List.mem_cons_of_mem _ ((h _).mp e))
  have h2 : leastQ q xs ≤ leastQ q ys := leastQ_le xs q _ (by
    rcases List.mem_cons.mp m2 with e | e
    · rw [e]; exact List.mem_cons_self ..
    · exact List.mem_cons_of_mem _ ((h _).mpr e))
  exact Rat.le_antisymm h2 h1
theorem eats1_stop {left : List Rat} (rest : List Int) : ∀ o : List Int, eats1 left (o ++ [(left.length : Int)] ++ rest) = eats1 left (o ++ [(left.length : Int)])
  | [] => by
    show (if (left.length : Int) = left.length ∨ _ then (left.length : Int) else _) = (if (left.length : Int) = left.length ∨ _ then (left.length : Int) else _)
    rw [if_pos (.inl rfl), if_pos (.inl rfl)]
  | x :: o => by
    show (if x = left.length ∨ leftAt left x ≠ 0 then x else eats1 left (o ++ [(left.length : Int)] ++ rest)) = (if x = left.length ∨ leftAt left x ≠ 0 then x else eats1 left (o ++ [(left.length : Int)]))
    rw [eats1_stop rest o]
theorem eats1_sig {n : Nat} {th : List Int} (P : PermL n th) {left left' : List Rat} (hl : left.length = n) (hl' : left'.length = n) (h : ∀ x, 0 ≤ x → x < (n : Int) → leftAt left' (sig th x) = leftAt left x) {o : List Int} (ho : ∀ x ∈ o, 0 ≤ x ∧ x < (n : Int)) : eats1 left' (fullO n (o.map (sig th))) = sig th (eats1 left (fullO n o)) := by
  unfold fullO
  rw [show ((n : Nat) : Int) = (left'.length : Int) by rw [hl'], eats1_stop]
  rw [show ((left'.length : Nat) : Int) = (left.length : Int) by rw [hl, hl'], eats1_stop]
  induction o with
  | nil =>
    show (if (left.length : Int) = (left'.length : Int) ∨ _ then (left.length : Int) else _) = sig th (if (left.length : Int) = (left.length : Int) ∨ _ then (left.length : Int) else _)
    rw [if_pos (.inl (by rw [hl, hl'])), if_pos (.inl rfl), hl, sig_n P]
  | cons x o ih =>
    have hx := ho x (List.mem_cons_self ..)
    have ih := ih fun y hy => ho y (List.mem_cons_of_mem _ hy)
    have hs := sig_lt P hx
    show (if sig th x = (left'.length : Int) ∨ leftAt left' (sig th x) ≠ 0 then sig th x else eats1 left' (o.map (sig th) ++ [(left.length : Int)])) = sig th (if x = (left.length : Int) ∨ leftAt left x ≠ 0 then x else eats1 left (o ++ [(left.length : Int)]))
    rw [h x hx.1 hx.2, ih]
    by_cases hz : leftAt left x = 0
    · rw [if_neg fun z => z.elim (fun z => by rw [hl'] at z; omega) fun z => z hz, if_neg fun z => z.elim (fun z => by rw [hl] at z; omega) fun z => z hz]
    · rw [if_pos (.inr hz), if_pos (.inr hz)]
theorem count_map_loc {f : Int → Int} {a : Int} : ∀ {l : List Int}, (∀ b ∈ l, f b = f a → b = a) → (l.map f).count (f a) = l.count a
  | [], _ => rfl
  | b :: l, h => by
    have ih := count_map_loc fun y hy => h y (List.mem_cons_of_mem _ hy)
    rw [List.map_cons, List.count_cons, List.count_cons, ih]
    congr 1
    by_cases hb : b = a
    · rw [hb, if_pos (beq_self_eq_true _), if_pos (beq_self_eq_true _)]
    · rw [if_neg (by intro z; exact hb (h b (List.mem_cons_self ..) (eq_of_beq z))), if_neg (by intro z; exact hb (eq_of_beq z))]
/-- two tables, the one numbered otherwise -/
structure Twin (n a : Nat) (th as : List Int) (t t' : Table) : Prop where
  P : PermL n th
  R : PermL a as
  M : MTab t
  M' : MTab t'
  n1 : t.1.length = n
  n2 : t'.1.length = n
  a1 : t.2.length = a
  a2 : t'.2.length = a
  c : ∀ x : Int, 0 ≤ x → x < (n : Int) → t'.1.getD (sig th x).toNat 0 = t.1.getD x.toNat 0
  o : ∀ (i : Nat) o, t.2[i]? = some o → t'.2[(as.getD i 0).toNat]? = some (o.map (sig th))
structure Corr (n a : Nat) (th as : List Int) (s s' : MS) : Prop where
  left : ∀ x : Int, 0 ≤ x → x < (n : Int) → leftAt s'.left (sig th x) = leftAt s.left x
  time : s'.time = s.time
  sh : ∀ (i : Nat) r, s.shares[i]? = some r → ∃ r', s'.shares[(as.getD i 0).toNat]? = some r' ∧ ∀ x : Int, 0 ≤ x → x ≤ (n : Int) → leftAt r' (sig th x) = leftAt r x
  sl : s'.steps.length = s.steps.length
  st : ∀ (k : Nat) st, s.steps[k]? = some st → ∃ st', s'.steps[k]? = some st' ∧ st'.1 = st.1 ∧ (as.map fun y => st'.2.1.getD y.toNat 0) = st.2.1.map (sig th) ∧ st'.2.2 = sortQ (st.2.2.map (sig th)) ∧ st'.2.1.length = a ∧ st.2.1.length = a ∧ (∀ x ∈ st.2.1, 0 ≤ x ∧ x ≤ (n : Int)) ∧ ∀ x ∈ st.2.2, 0 ≤ x ∧ x < (n : Int)
theorem as_lt {a : Nat} {as : List Int} (R : PermL a as) {i : Nat} (h : i < a) : (as.getD i 0).toNat < a ∧ as[i]? = some (as.getD i 0) ∧ 0 ≤ as.getD i 0 := by
  have hk : i < as.length := by rw [R.len]; exact h
  have := R.rg _ (mem_getD hk)
  exact ⟨by omega, by rw [List.getD_eq_getElem?_getD, List.getElem?_eq_getElem hk]; rfl, this.1⟩
theorem rng_getD (l : List Int) : (rng l.length).map (fun y => l.getD y.toNat 0) = l := by
  unfold rng
  rw [List.map_map]
  refine List.ext_getElem? fun i => ?_
  rw [List.getElem?_map]
  by_cases hi : i < l.length
  · rw [List.getElem?_range hi, List.getElem?_eq_getElem hi]
    show some (l.getD (0 + (i : Int)).toNat 0) = _
    rw [show (0 + (i : Int)).toNat = i by omega, List.getD_eq_getElem?_getD, List.getElem?_eq_getElem hi]
    rfl
  · rw [List.getElem?_eq_none (by rw [List.length_range]; omega), List.getElem?_eq_none (by omega)]
    rfl
theorem filter_sorted (n : Nat) (p : Int → Bool) : ((rng n).filter p).Pairwise (· ≤ ·) := by
  refine List.Pairwise.filter _ ?_
  unfold rng
  rw [List.pairwise_map]
  exact List.pairwise_lt_range.imp fun h => by omega
theorem Corr.next {n a : Nat} {th as : List Int} {t t' : Table} (T : Twin n a th as t t') {i : Nat} {s s' : MS} (I : MInv t i s) (I' : MInv t' i s') (C : Corr n a th as s s') (hz : s.time ≠ 0) : Corr n a th as (mnext (fosQ t) s) (mnext (fosQ t') s') := by
  have P := T.P
  have R := T.R
  have hll : s.left.length = n := by rw [I.ll, T.n1]
  have hll' : s'.left.length = n := by rw [I'.ll, T.n2]
  have F := T.M.fo
  have F' := T.M'.fo
  have hE : ∀ (i : Nat) o, t.2[i]? = some o → (eatenQ (fosQ t) s.left)[i]? = some (eats1 s.left (fullO n o)) := fun i o h => by
    rw [eatenQ, List.getElem?_map, fosQ, List.getElem?_map, h, T.n1]; rfl
  have hE' : ∀ (i : Nat) o, t'.2[i]? = some o → (eatenQ (fosQ t') s'.left)[i]? = some (eats1 s'.left (fullO n o)) := fun i o h => by
    rw [eatenQ, List.getElem?_map, fosQ, List.getElem?_map, h, T.n2]; rfl
  have hel : (eatenQ (fosQ t) s.left).length = a := by rw [eatenQ, List.length_map, fosQ, List.length_map, T.a1]
  have hel' : (eatenQ (fosQ t') s'.left).length = a := by rw [eatenQ, List.length_map, fosQ, List.length_map, T.a2]
  have hrg := eaten_rg F I.ll
  rw [T.n1] at hrg
  have hrg' := eaten_rg F' I'.ll
  rw [T.n2] at hrg'
  have hEE : ∀ i, i < a → (eatenQ (fosQ t') s'.left)[(as.getD i 0).toNat]? = some (sig th ((eatenQ (fosQ t) s.left).getD i 0)) := fun i hi => by
    obtain ⟨o, ho⟩ : ∃ o, t.2[i]? = some o := ⟨_, List.getElem?_eq_getElem (by rw [T.a1]; exact hi)⟩
    rw [hE' _ _ (T.o i o ho), List.getD_eq_getElem?_getD, hE i o ho]
    exact congrArg some (eats1_sig P hll hll' C.left (by have := T.M.os o (List.mem_of_getElem? ho); rw [T.n1] at this; exact this))
  have hmap : (as.map fun y => (eatenQ (fosQ t') s'.left).getD y.toNat 0) = (eatenQ (fosQ t) s.left).map (sig th) := by
    refine List.ext_getElem? fun i => ?_
    rw [List.getElem?_map, List.getElem?_map]
    by_cases hi : i < a
    · have h1 := as_lt R hi
      rw [h1.2.1]
      show some ((eatenQ (fosQ t') s'.left).getD (as.getD i 0).toNat 0) = _
      rw [List.getD_eq_getElem?_getD, hEE i hi, List.getD_eq_getElem?_getD, List.getElem?_eq_getElem (by omega)]
      rfl
    · rw [List.getElem?_eq_none (by rw [R.len]; omega), List.getElem?_eq_none (by omega)]
      rfl
  have hperm : ((eatenQ (fosQ t) s.left).map (sig th)).Perm (eatenQ (fosQ t') s'.left) := by
    rw [← hmap]
    have h1 := R.perm.map fun y => (eatenQ (fosQ t') s'.left).getD y.toNat 0
    have h2 := rng_getD (eatenQ (fosQ t') s'.left)
    rw [hel'] at h2
    rw [h2] at h1
    exact h1
  have hcnt : ∀ x : Int, 0 ≤ x → x < (n : Int) → cntQ (eatenQ (fosQ t') s'.left) (sig th x).toNat = cntQ (eatenQ (fosQ t) s.left) x.toNat := fun x h0 h1 => by
    have hs := sig_lt P ⟨h0, h1⟩
    unfold cntQ
    rw [show (((sig th x).toNat : Nat) : Int) = sig th x by omega, show ((x.toNat : Nat) : Int) = x by omega, ← hperm.count_eq]
    exact count_map_loc fun b hb e => sig_inj P (hrg b hb) ⟨h0, by omega⟩ e
  have hslen : slenQ (eatenQ (fosQ t') s'.left) s'.left s'.time = slenQ (eatenQ (fosQ t) s.left) s.left s.time := by
    unfold slenQ
    rw [C.time, hll, hll']
    refine leastQ_set fun q => ?_
    rw [mem_lens, mem_lens]
    constructor
    · rintro ⟨k, hk, hc, rfl⟩
      obtain ⟨x, hx0, hx1, hx⟩ := sig_onto P (y := (k : Int)) ⟨by omega, by omega⟩
      have h1 := hcnt x hx0 hx1
      have h2 := C.left x hx0 hx1
      rw [hx] at h1 h2
      rw [Int.toNat_natCast] at h1
      have h2 : s'.left.getD (k : Int).toNat 0 = s.left.getD x.toNat 0 := h2
      rw [Int.toNat_natCast] at h2
      exact ⟨x.toNat, by omega, by omega, by rw [h2, h1]⟩
    · rintro ⟨k, hk, hc, rfl⟩
      have h1 := hcnt (k : Int) (by omega) (by omega)
      have h2 : s'.left.getD (sig th (k : Int)).toNat 0 = s.left.getD (k : Int).toNat 0 := C.left (k : Int) (by omega) (by omega)
      have hs := sig_lt P (x := (k : Int)) ⟨by omega, by omega⟩
      rw [Int.toNat_natCast] at h1 h2
      exact ⟨(sig th (k : Int)).toNat, by omega, by omega, by rw [h1, h2]⟩
  have hnl : ∀ x : Int, 0 ≤ x → x < (n : Int) → leftAt (mnext (fosQ t') s').left (sig th x) = leftAt (mnext (fosQ t) s).left x := fun x h0 h1 => by
    have hs := sig_lt P ⟨h0, h1⟩
    have e1 : leftAt (mnext (fosQ t') s').left (sig th x) = leftAt s'.left (sig th x) - slenQ (eatenQ (fosQ t') s'.left) s'.left s'.time * ((cntQ (eatenQ (fosQ t') s'.left) (sig th x).toNat : Nat) : Rat) := newLeft_get (by omega)
    have e2 : leftAt (mnext (fosQ t) s).left x = leftAt s.left x - slenQ (eatenQ (fosQ t) s.left) s.left s.time * ((cntQ (eatenQ (fosQ t) s.left) x.toNat : Nat) : Rat) := newLeft_get (by omega)
    rw [e1, e2, hslen, hcnt x h0 h1, C.left x h0 h1]
  have hend : endedTo (eatenQ (fosQ t') s'.left) (mnext (fosQ t') s').left s'.left.length = sortQ ((endedTo (eatenQ (fosQ t) s.left) (mnext (fosQ t) s).left s.left.length).map (sig th)) := by
    refine sortQ_uniq ?_ (filter_sorted _ _)
    have nd1 : (endedTo (eatenQ (fosQ t') s'.left) (mnext (fosQ t') s').left s'.left.length).Nodup := (rng_nodup _).filter _
    have nd2 : ((endedTo (eatenQ (fosQ t) s.left) (mnext (fosQ t) s).left s.left.length).map (sig th)).Nodup := by
      refine nodup_mapL ((rng_nodup _).filter _) ?_
      intro x hx y hy e
      have h1 := rng_mem.mp (List.mem_filter.mp hx).1
      have h2 := rng_mem.mp (List.mem_filter.mp hy).1
      exact sig_inj P (by omega) (by omega) e
    refine (List.perm_ext_iff_of_nodup nd1 nd2).mpr fun y => ?_
    rw [List.mem_map]
    have hm : ∀ x, x ∈ endedTo (eatenQ (fosQ t) s.left) (mnext (fosQ t) s).left s.left.length ↔ (0 ≤ x ∧ x < (n : Int)) ∧ 0 < cntQ (eatenQ (fosQ t) s.left) x.toNat ∧ ¬ 0 < leftAt (mnext (fosQ t) s).left x := fun x => by
      unfold endedTo
      rw [List.mem_filter, rng_mem, hll, Bool.and_eq_true, Bool.not_eq_true', decide_eq_true_eq, decide_eq_false_iff_not]
      unfold cntQ
      constructor
      · rintro ⟨h1, h2⟩
        rw [show ((x.toNat : Nat) : Int) = x by omega]
        exact ⟨h1, h2⟩
      · rintro ⟨h1, h2⟩
        rw [show ((x.toNat : Nat) : Int) = x by omega] at h2
        exact ⟨h1, h2⟩
    have hm' : ∀ x, x ∈ endedTo (eatenQ (fosQ t') s'.left) (mnext (fosQ t') s').left s'.left.length ↔ (0 ≤ x ∧ x < (n : Int)) ∧ 0 < cntQ (eatenQ (fosQ t') s'.left) x.toNat ∧ ¬ 0 < leftAt (mnext (fosQ t') s').left x := fun x => by
      unfold endedTo
      rw [List.mem_filter, rng_mem, hll', Bool.and_eq_true, Bool.not_eq_true', decide_eq_true_eq, decide_eq_false_iff_not]
      unfold cntQ
      constructor
      · rintro ⟨h1, h2⟩
        rw [show ((x.toNat : Nat) : Int) = x by omega]
        exact ⟨h1, h2⟩
      · rintro ⟨h1, h2⟩
        rw [show ((x.toNat : Nat) : Int) = x by omega] at h2
        exact ⟨h1, h2⟩
    rw [hm']
    constructor
    · rintro ⟨h1, h2, h3⟩
      obtain ⟨x, hx0, hx1, rfl⟩ := sig_onto P h1
      rw [hcnt x hx0 hx1] at h2
      rw [hnl x hx0 hx1] at h3
      exact ⟨x, (hm x).mpr ⟨⟨hx0, hx1⟩, h2, h3⟩, rfl⟩
    · rintro ⟨x, hx, rfl⟩
      obtain ⟨h1, h2, h3⟩ := (hm x).mp hx
      have hs := sig_lt P h1
      refine ⟨⟨hs.2.1, hs.2.2⟩, ?_, ?_⟩
      · rw [hcnt x h1.1 h1.2]; exact h2
      · rw [hnl x h1.1 h1.2]; exact h3
  refine ⟨hnl, ?_, ?_, ?_, ?_⟩
  · show s'.time - _ = s.time - _
    rw [hslen, C.time]
  · intro i r hr
    obtain ⟨r0, f, h1, hf, rfl⟩ := zip_row hr
    obtain ⟨o, ho, rfl⟩ := get_map hf
    have hi : i < a := by
      have := (List.getElem?_eq_some_iff.mp ho).1
      rw [T.a1] at this
      exact this
    obtain ⟨r0', h1', hx⟩ := C.sh i r0 h1
    have he := hEE i hi
    have heo := hE i o ho
    have hE2 : (eatenQ (fosQ t) s.left).getD i 0 = eats1 s.left (fullO n o) := by rw [List.getD_eq_getElem?_getD, heo]; rfl
    rw [hE2] at he
    refine ⟨addRow (slenQ (eatenQ (fosQ t') s'.left) s'.left s'.time) r0' (sig th (eats1 s.left (fullO n o))), ?_, fun x hx0 hx1 => ?_⟩
    · show (List.zipWith (addRow (slenQ (eatenQ (fosQ t') s'.left) s'.left s'.time)) s'.shares (eatenQ (fosQ t') s'.left))[(as.getD i 0).toNat]? = _
      rw [List.getElem?_zipWith, h1', he]
    · have hrl := I.rl r0 (List.mem_of_getElem? h1)
      have hrl' := I'.rl r0' (List.mem_of_getElem? h1')
      rw [T.n1] at hrl
      rw [T.n2] at hrl'
      have hy := hrg _ (List.mem_of_getElem? heo)
      have hsy := sig_rg P hy
      have hsx := sig_rg P ⟨hx0, hx1⟩
      rw [leftAt_addRow hsy.1 (by omega) hsx.1, hslen, hx x hx0 hx1]
      show _ = leftAt (addRow (slenQ (eatenQ (fosQ t) s.left) s.left s.time) r0 (eats1 s.left (fullO t.1.length o))) x
      rw [T.n1, leftAt_addRow hy.1 (by omega) hx0]
      congr 1
      by_cases hxy : x = eats1 s.left (fullO n o)
      · rw [if_pos hxy, if_pos (by rw [hxy])]
      · rw [if_neg hxy, if_neg fun z => hxy (sig_inj P ⟨hx0, hx1⟩ hy z)]
  · show (s'.steps ++ [_]).length = (s.steps ++ [_]).length
    rw [List.length_append, List.length_append, C.sl]
    rfl
  · intro k st hst
    have hst : (s.steps ++ [(slenQ (eatenQ (fosQ t) s.left) s.left s.time, eatenQ (fosQ t) s.left, endedTo (eatenQ (fosQ t) s.left) (mnext (fosQ t) s).left s.left.length)])[k]? = some st := hst
    show ∃ st', (s'.steps ++ [(slenQ (eatenQ (fosQ t') s'.left) s'.left s'.time, eatenQ (fosQ t') s'.left, endedTo (eatenQ (fosQ t') s'.left) (mnext (fosQ t') s').left s'.left.length)])[k]? = some st' ∧ _
    by_cases hk : k < s.steps.length
    · rw [List.getElem?_append_left hk] at hst
      rw [List.getElem?_append_left (by rw [C.sl]; exact hk)]
      exact C.st k st hst
    · rw [List.getElem?_append_right (by omega)] at hst
      rw [List.getElem?_append_right (by rw [C.sl]; omega), C.sl]
      have hk0 : k - s.steps.length = 0 := by
        have := (List.getElem?_eq_some_iff.mp hst).1
        have h1 : k - s.steps.length < 1 := this
        omega
      rw [hk0] at hst ⊢
      cases hst
      refine ⟨_, rfl, hslen, hmap, hend, hel', hel, hrg, fun x hx => ?_⟩
      have := rng_mem.mp (List.mem_filter.mp hx).1
      rw [hll] at this
      exact this
end DL
namespace DL
open PySem PySem.Spec PyProof.Rows L2
def putTo {α : Type} (init vals : List α) (ix : List Int) (k : Nat) : List α := ((vals.zip ix).take k).foldl (fun l z => l.set z.2.toNat z.1) init
section
variable {α : Type} {init vals : List α} {ix : List Int} {n : Nat}
theorem putTo_len (k : Nat) : (putTo init vals ix k).length = init.length := by
  have : ∀ (zs : List (α × Int)) (l : List α), (zs.foldl (fun l z => l.set z.2.toNat z.1) l).length = l.length := fun zs => by
    induction zs with
    | nil => intro l; rfl
    | cons z zs ih => intro l; rw [List.foldl_cons, ih, List.length_set]
  exact this _ _
theorem putTo_succ {k : Nat} {v : α} {i : Int} (hv : vals[k]? = some v) (hi : ix[k]? = some i) : putTo init vals ix (k + 1) = (putTo init vals ix k).set i.toNat v := by
  have h : (vals.zip ix)[k]? = some (v, i) := (List.getElem?_zip_eq_some (z := (v, i))).mpr ⟨hv, hi⟩
  unfold putTo
  rw [foldl_take _ _ h]
theorem putTo_get (P : PermL n ix) (hl : init.length = n) (hv : vals.length = n) : ∀ k, k ≤ n → ∀ j, j < k → (putTo init vals ix k)[(ix.getD j 0).toNat]? = vals[j]?
  | 0, _, j, hj => absurd hj (Nat.not_lt_zero j)
  | k + 1, hk, j, hj => by
    obtain ⟨v, hvk⟩ : ∃ v, vals[k]? = some v := ⟨_, List.getElem?_eq_getElem (by omega)⟩
    have hik := as_lt P (i := k) (by omega)
    have hij := as_lt P (i := j) (by omega)
    rw [putTo_succ hvk hik.2.1]
    by_cases h : j = k
    · subst h
      rw [List.getElem?_set_self (by rw [putTo_len, hl]; exact hik.1), hvk]
    · rw [List.getElem?_set_ne (fun z => ?_)]
      · exact putTo_get P hl hv k (by omega) j (by omega)
      · have e : ix.getD j 0 = ix.getD k 0 := by omega
        have g1 := hij.2.1
        rw [e] at g1
        exact h (nodup_inj P.nd g1 hik.2.1)
end
theorem as_onto {a : Nat} {as : List Int} (R : PermL a as) {j : Nat} (h : j < a) : ∃ i, i < a ∧ (as.getD i 0).toNat = j := by
  obtain ⟨i, hi⟩ := List.mem_iff_getElem?.mp (R.all (y := (j : Int)) ⟨by omega, by omega⟩)
  have hil := (List.getElem?_eq_some_iff.mp hi).1
  rw [R.len] at hil
  exact ⟨i, hil, by rw [List.getD_eq_getElem?_getD, hi]; show ((j : Int)).toNat = j; omega⟩
theorem twin_mk {n a : Nat} {th as : List Int} (P : PermL n th) (R : PermL a as) {cs : List Int} {os : List (List Int)} (Q : TabQ cs os) (hn : cs.length = n) (ha : os.length = a) : Twin n a th as (cs, os) (putTo cs cs th n, putTo os (os.map fun o => o.map (sig th)) as a) := by
  have M := Q.m
  have hol : (os.map fun o => o.map (sig th)).length = a := by rw [List.length_map, ha]
  have hcg : ∀ x : Int, 0 ≤ x → x < (n : Int) → (putTo cs cs th n).getD (sig th x).toNat 0 = cs.getD x.toNat 0 := fun x h0 h1 => by
    have h := putTo_get (init := cs) (vals := cs) P hn hn n (Nat.le_refl _) x.toNat (by omega)
    rw [← (sig_lt P ⟨h0, h1⟩).1] at h
    rw [List.getD_eq_getElem?_getD, List.getD_eq_getElem?_getD, h]
  have hog : ∀ (i : Nat) o, os[i]? = some o → (putTo os (os.map fun o => o.map (sig th)) as a)[(as.getD i 0).toNat]? = some (o.map (sig th)) := fun i o h => by
    have hi := (List.getElem?_eq_some_iff.mp h).1
    rw [putTo_get (init := os) R ha hol a (Nat.le_refl _) i (by omega), List.getElem?_map, h]
    rfl
  have hmem : ∀ o' ∈ putTo os (os.map fun o => o.map (sig th)) as a, ∃ o ∈ os, o' = o.map (sig th) := fun o' h => by
    obtain ⟨j, hj⟩ := List.mem_iff_getElem?.mp h
    have hjl := (List.getElem?_eq_some_iff.mp hj).1
    rw [putTo_len, ha] at hjl
    obtain ⟨i, hi, rfl⟩ := as_onto R hjl
    obtain ⟨o, ho⟩ : ∃ o, os[i]? = some o := ⟨_, List.getElem?_eq_getElem (by omega)⟩
    rw [hog i o ho] at hj
    cases hj
    exact ⟨o, List.mem_of_getElem? ho, rfl⟩
  refine ⟨P, R, M, ⟨by show (putTo ..).length ≤ 6; rw [putTo_len]; exact Q.n, by show (putTo ..).length ≤ 6; rw [putTo_len]; exact Q.a, fun c hc => ?_, fun o' h => ?_, fun o' h => ?_⟩, hn, by show (putTo ..).length = n; rw [putTo_len, hn], ha, by show (putTo ..).length = a; rw [putTo_len, ha], hcg, hog⟩
  · obtain ⟨k, hk⟩ := List.mem_iff_getElem?.mp hc
    have hkl := (List.getElem?_eq_some_iff.mp hk).1
    have hkl : k < (putTo cs cs th n).length := hkl
    rw [putTo_len, hn] at hkl
    obtain ⟨x, h0, h1, hx⟩ := sig_onto P (y := (k : Int)) ⟨by omega, by omega⟩
    have := hcg x h0 h1
    rw [hx, Int.toNat_natCast, List.getD_eq_getElem?_getD] at this
    have hk : (putTo cs cs th n)[k]? = some c := hk
    rw [hk] at this
    have this : c = cs.getD x.toNat 0 := this
    rw [this]
    exact Q.c _ (mem_getD (by omega))
  · obtain ⟨o, ho, rfl⟩ := hmem o' h
    have hO := Q.o o ho
    refine nodup_mapL hO.nd fun x hx y hy e => ?_
    have h1 := hO.rg x hx
    have h2 := hO.rg y hy
    rw [hn] at h1 h2
    exact sig_inj P (by omega) (by omega) e
  · obtain ⟨o, ho, rfl⟩ := hmem o' h
    have hO := Q.o o ho
    intro y hy
    obtain ⟨x, hx, rfl⟩ := List.mem_map.mp hy
    have h1 := hO.rg x hx
    rw [hn] at h1
    have := sig_lt P h1
    show 0 ≤ sig th x ∧ sig th x < (((putTo cs cs th n).length : Nat) : Int)
    rw [putTo_len, hn]
    exact this.2
theorem Twin.corr {n a : Nat} {th as : List Int} {t t' : Table} (T : Twin n a th as t t') : ∀ i, Corr n a th as (mst t i) (mst t' i)
  | 0 => by
    refine ⟨fun x h0 h1 => ?_, rfl, fun i r hr => ?_, rfl, fun k st h => ?_⟩
    · show (t'.1.map fun c => ((c : Int) : Rat)).getD (sig th x).toNat 0 = (t.1.map fun c => ((c : Int) : Rat)).getD x.toNat 0
      have hs := sig_lt T.P ⟨h0, h1⟩
      have k1 : (sig th x).toNat < t'.1.length := by rw [T.n2]; omega
      have k2 : x.toNat < t.1.length := by rw [T.n1]; omega
      have hc := T.c x h0 h1
      rw [List.getD_eq_getElem?_getD, List.getD_eq_getElem?_getD, List.getElem?_eq_getElem k1, List.getElem?_eq_getElem k2] at hc
      rw [List.getD_eq_getElem?_getD, List.getD_eq_getElem?_getD, List.getElem?_map, List.getElem?_map, List.getElem?_eq_getElem k1, List.getElem?_eq_getElem k2]
      have hc : t'.1[(sig th x).toNat] = t.1[x.toNat] := hc
      show ((t'.1[(sig th x).toNat] : Int) : Rat) = ((t.1[x.toNat] : Int) : Rat)
      rw [hc]
    · have hr : (t.2.map fun _ => List.replicate (t.1.length + 1) (0 : Rat))[i]? = some r := hr
      obtain ⟨o, ho, rfl⟩ := get_map hr
      refine ⟨List.replicate (t'.1.length + 1) 0, ?_, fun x _ _ => by rw [leftAt_rep0, leftAt_rep0]⟩
      show (t'.2.map fun _ => List.replicate (t'.1.length + 1) (0 : Rat))[_]? = _
      rw [List.getElem?_map, T.o i o ho]
      rfl
    · cases h
  | i + 1 => by
    show Corr n a th as (mstep (fosQ t) (mst t i)) (mstep (fosQ t') (mst t' i))
    have C := T.corr i
    unfold mstep
    rw [C.time]
    split
    · exact C
    · rename_i hz
      exact Corr.next T (T.M.inv i).1 (T.M'.inv i).1 C hz
theorem Twin.meal {n a : Nat} {th as : List Int} {t t' : Table} (T : Twin n a th as t t') : Corr n a th as (mealQ t) (mealQ t') := by
  have := T.corr (n + 1)
  unfold mealQ
  rw [T.n1, T.n2]
  exact this
theorem MealF.same {t : Table} {sh : List (List Rat)} {left : List Rat} (F : MealF t sh left) (hrg : ∀ o ∈ t.2, ∀ x ∈ o, 0 ≤ x ∧ x < (t.1.length : Int)) {i j : Nat} {ri rj : List Rat} {o : List Int} (hi : sh[i]? = some ri) (hj : sh[j]? = some rj) (h1 : t.2[i]? = some o) (h2 : t.2[j]? = some o) : ri = rj := by
  refine row_ext (n := t.1.length) (F.rl ri (List.mem_of_getElem? hi)) (F.rl rj (List.mem_of_getElem? hj)) fun x hx => ?_
  obtain ⟨p, hp⟩ := List.mem_iff_getElem?.mp ((fullO_mem (hrg o (List.mem_of_getElem? h1))).mpr hx)
  have e : ∀ k, sumOver ri ((fullO t.1.length o).take k) = sumOver rj ((fullO t.1.length o).take k) := fun k =>
    Rat.le_antisymm (F.ne j i rj ri o hj hi h2 k) (F.ne i j ri rj o hi hj h1 k)
  have e1 := e (p + 1)
  rw [sumOver_take hp, sumOver_take hp, e p] at e1
  grind
end DL
namespace DL
open PySem PySem.Spec PyProof.Rows L2
/-! ### what a list held is kept by a name while the list is cleared -/
theorem at_cut {H : Hp} {v : V} {d : PyData} {q : List Nat} {u : V} {c : PyData} (h : AtV H v d q u c) : ∀ {p : List Nat} {k : Nat}, q = p ++ [k] → ∃ v1 d1, AtV H v d p v1 d1 ∧ AtV H v1 d1 [k] u c := by
  induction h with
  | nil => intro p k e; cases p <;> cases e
  | @lst a vs ds i w e p' u d' h1 h2 h3 h4 ih =>
    intro p k hq
    cases p with
    | nil =>
      cases hq
      cases h4
      exact ⟨_, _, .nil, .lst h1 h2 h3 .nil⟩
    | cons b r =>
      cases hq
      obtain ⟨v1, d1, x, y⟩ := ih rfl
      exact ⟨v1, d1, .lst h1 h2 h3 x, y⟩
  | @tup a vs ds i w e p' u d' h0 h1 h2 h3 h4 ih =>
    intro p k hq
    cases p with
    | nil =>
      cases hq
      cases h4
      exact ⟨_, _, .nil, .tup h0 h1 h2 h3 .nil⟩
    | cons b r =>
      cases hq
      obtain ⟨v1, d1, x, y⟩ := ih rfl
      exact ⟨v1, d1, .tup h0 h1 h2 h3 x, y⟩
section
variable {K : PySem.W.Frag} {B : Hp} {W : Addr → Prop} {ρ : DEnv} {σ : L2.St} {H H1 : Hp} {F : Nat → List Addr}
theorem StF.wide {S : List Addr} {j : Nat} (s : StF K B W ρ σ H F) (h : ∀ x ∈ S, x ∈ F j) : StF K B (fun a => W a ∨ a ∈ S) ρ σ H F := by
  have e : UF (fun a => W a ∨ a ∈ S) F = UF W F := funext fun a => propext ⟨fun h' => by
    rcases h' with (h' | h') | h'
    · exact .inl h'
    · exact .inr ⟨j, h a h'⟩
    · exact .inr h', fun h' => by
    rcases h' with h' | h'
    · exact .inl (.inl h')
    · exact .inr h'⟩
  exact ⟨s.same, s.len, s.nd, s.dj, s.fresh, fun i e' he => by rw [e]; exact s.ent i e' he, s.out⟩
/-- a slot of which nothing is known takes what is owned by nobody -/
theorem st_adopt {S : List Addr} {i : Nat} {v : V} {c : PyData} (s : StF K B (fun a => W a ∨ a ∈ S) ρ σ H F) (hi : ρ[i]? = some .un) (hσ : σ[i]? = some (some v)) (hO : OwnR K H v c S) (nS : S.Nodup) (hS : ∀ x ∈ S, B x = none ∧ ∀ k, x ∉ F k) : StF K B W (ρ.set i (.ow c)) σ H (setF F i S) := by
  have fi : F i = [] := s.ent i _ hi
  have il : i < ρ.length := (List.getElem?_eq_some_iff.mp hi).1
  have e : UF W (setF F i S) = UF (fun a => W a ∨ a ∈ S) F := funext fun a => propext ⟨fun h => by
    rcases h with h | ⟨k, h⟩
    · exact .inl (.inl h)
    · by_cases hk : k = i
      · rw [hk, setF_same] at h
        exact .inl (.inr h)
      · rw [setF_ne hk] at h
        exact .inr ⟨k, h⟩, fun h => by
    rcases h with (h | h) | ⟨k, h⟩
    · exact .inl h
    · exact .inr ⟨i, by rw [setF_same]; exact h⟩
    · by_cases hk : k = i
      · rw [hk, fi] at h
        cases h
      · exact .inr ⟨k, by rw [setF_ne hk]; exact h⟩⟩
  refine ⟨s.same, by rw [List.length_set]; exact s.len, fun k => ?_, fun k l x h1 h2 => ?_, fun k x h1 => ?_, fun k o ho => ?_, fun k ho => ?_⟩
  · by_cases hk : k = i
    · rw [hk, setF_same]; exact nS
    · rw [setF_ne hk]; exact s.nd k
  · by_cases hk : k = i
    · rw [hk, setF_same] at h1
      by_cases hl : l = i
      · rw [hk, hl]
      · rw [setF_ne hl] at h2
        exact ((hS x h1).2 l h2).elim
    · rw [setF_ne hk] at h1
      by_cases hl : l = i
      · rw [hl, setF_same] at h2
        exact ((hS x h2).2 k h1).elim
      · rw [setF_ne hl] at h2
        exact s.dj k l x h1 h2
  · by_cases hk : k = i
    · rw [hk, setF_same] at h1
      exact (hS x h1).1
    · rw [setF_ne hk] at h1
      exact s.fresh k x h1
  · rw [e]
    by_cases hk : k = i
    · subst hk
      rw [List.getElem?_set_self il] at ho
      cases ho
      rw [setF_same]
      exact ⟨v, hσ, hO⟩
    · rw [List.getElem?_set_ne (Ne.symm hk)] at ho
      rw [setF_ne hk]
      have q := s.ent k o ho
      cases o with
      | al k2 q0 =>
        obtain ⟨x1, v, w2, d2, d2', x2, x3, x4, x5⟩ := q
        have n : i ≠ k2 := fun z => by
          rw [← z, hi] at x3
          cases x3
        exact ⟨x1, v, w2, d2, d2', x2, by rw [List.getElem?_set_ne n]; exact x3, x4, x5⟩
      | un => exact q
      | fz d => exact q
      | ow d => exact q
      | vl v => exact q
      | sh ds => exact q
      | ob _ => exact q
      | rt _ _ => exact q
      | im _ => exact q
      | io _ _ _ => exact q
  · have hk : k ≠ i := fun z => by
      rw [z, List.getElem?_set_self il] at ho
      cases ho
    rw [List.getElem?_set_ne (Ne.symm hk)] at ho
    rw [setF_ne hk]
    exact s.out k ho
end
section
variable {X : Cx} {ρ : DEnv} {D : DEnds} {o : Expr} {apos cpos pos : Pos}
/-- o.clear() while slot i names an item of that list: the name keeps the item -/
theorem s_clearAd (i : Nat) (h : RD X o ρ fun oo => ∃ j p k ds c, oo = .al j p ∧ dat ρ oo = some (.list ds) ∧ ρ[i]? = some (.al j (p ++ [k])) ∧ ds[k]? = some c ∧ Nat.beq i j = false ∧ D.nx ((modE ρ j p (.list [])).set i (.ow c))) (hbase : attributeBase o "clear" X.env (eval o X.env) = eval o X.env := by rfl) (hline : (apos.endLine == cpos.line) = true := by rfl)
    (hs : swapsWith (.Call (.Attribute o "clear" apos) [] [] cpos) none pos.line X.env = pure false := by rfl) : S1 X (.Expr (.Call (.Attribute o "clear" apos) [] [] cpos) pos) ρ D := fun B W σ H hW ⟨F, s⟩ => by
  refine ws_of (ps_expr (pe_bm0 PySem.F.plainAttrs_list PySem.F.slot_list_clear PySem.F.type_list_clear mt_clear pe_w hbase hline) hs) ?_
  refine we_mono (h _ σ H (s.mut hW) s.env) fun v H1 ⟨e1, oo, r, j, p, k, ds, c, eo, hd, hi, hc, hij, q⟩ => ?_
  subst eo
  obtain ⟨a, w, d0, ev, hj, hσ, hat⟩ := st_place s e1 r hd
  subst ev
  have s1 := s.mono e1
  obtain ⟨x1, u, w2, d2, c2, x2, x3, x4, x5⟩ := s1.ent i _ hi
  rw [hj] at x3
  cases x3
  rw [hσ] at x4
  cases x4
  obtain ⟨v1, d1, y1, y2⟩ := at_cut x5 rfl
  obtain ⟨ev, ed⟩ := at_fun y1 hat
  subst ev ed
  have nij : i ≠ j := fun z => by
    rw [z] at hij
    rw [Nat.beq_refl j] at hij
    cases hij
  have nil0 : ∀ {W : Addr → Prop}, StF X.K B W ρ σ H F → StF X.K B (fun a => W a ∨ a ∈ ([] : List Addr)) ρ σ H F := fun s => s.wide (j := j) fun _ h => by cases h
  obtain ⟨vs, Sa, ha, hO, nSa, subSa, _⟩ := st_modMF (M := []) (nil0 s) (fun _ h => by cases h) e1 hj hσ hat
  obtain ⟨wk, hk1, hk2⟩ : ∃ wk, vs[k]? = some wk ∧ u = wk ∧ c2 = c := by
    cases y2 with
    | lst g1 g2 g3 g4 =>
      rw [ha] at g1
      cases g1
      cases g4
      rw [hc] at g3
      cases g3
      exact ⟨_, g2, rfl, rfl⟩
  obtain ⟨rfl, rfl⟩ := hk2
  obtain ⟨Sk, oS, sS⟩ := owns_getS hO hk1 hc
  obtain ⟨vs', Sa', ha', hO', nSa', subSa', put⟩ := st_modMF (M := []) (nil0 (s.wide (S := Sk) (j := j) fun x hx => subSa x (sS.subset hx))) (fun _ h => by cases h) e1 hj hσ hat
  rw [ha] at ha'
  cases ha'
  cases owns_fun _ _ _ _ hO hO'
  obtain ⟨F', s2, out⟩ := put [] [] [] .nil .nil fun x hx => by cases hx
  have aNot : a ∉ Sk := fun m => by
    obtain ⟨w', z1, how⟩ := s1.ent j _ hj
    rw [hσ] at z1
    cases z1
    obtain ⟨vs2, Sa2, R, ha2, hO2, hperm, _⟩ := own_zip hat rfl rfl how
    rw [ha] at ha2
    cases ha2
    cases owns_fun _ _ _ _ hO hO2
    exact (List.nodup_cons.mp (hperm.nodup_iff.mp (s.nd j))).1 (List.mem_append_left _ (sS.subset m))
  have gi : (modE ρ j p (.list []))[i]? = some .un := by
    unfold modE
    rw [hj]
    show ((ρ.map (kilP j p)).set j _)[i]? = _
    rw [List.getElem?_set_ne (Ne.symm nij), List.getElem?_map, hi]
    show some (kilP j p (.al j (p ++ [k]))) = _
    show some (if j = j then (if p.length < (p ++ [k]).length then DE.un else .al j (p ++ [k])) else .al j (p ++ [k])) = _
    rw [if_pos rfl, if_pos (by rw [List.length_append]; exact Nat.lt_succ_self _)]
  have oS2 : OwnR X.K (upd H1 a (.lst [])) u c2 Sk := own_mono (upd_tups (by rw [ha]; trivial)) (fun b xs e => by
    have n : b ≠ a := fun z => by rw [z, ha] at e; cases e
    rw [upd_ne n]; exact e) _ _ _ oS fun b m o e => by
    have n : b ≠ a := fun z => aNot (z ▸ m)
    rw [upd_ne n]; exact e
  have s4 := st_adopt s2 gi x2 oS2 (sS.nodup nSa) fun x hx => ⟨s.fresh j x (subSa x (sS.subset hx)), fun k m => by
    rcases out k x m with z | z
    · exact z.2 (sS.subset hx)
    · cases z⟩
  exact ⟨.inl ⟨rfl, _, .inl (.inl ha)⟩, a, vs, rfl, rfl, ha, _, ⟨_, s4⟩, q⟩
end
end DL
namespace DL
open PySem PySem.Spec PyProof.Rows L2
/-! ### the first step of a meal, reckoned with whole numbers -/
def firstQ (cs : List Int) : List Int → Int
  | [] => (cs.length : Nat)
  | x :: r => if 0 < cs.getD x.toNat 0 then x else firstQ cs r
def lenQ (cs ea : List Int) : Nat → Int × Int
  | 0 => (1, 1)
  | k + 1 => if 0 < (ea.count ((k : Nat) : Int) : Int) ∧ cs.getD k 0 * (lenQ cs ea k).2 < (lenQ cs ea k).1 * (ea.count ((k : Nat) : Int) : Int) then (cs.getD k 0, (ea.count ((k : Nat) : Int) : Int)) else lenQ cs ea k
def endQ (cs ea : List Int) (t b : Int) (k : Nat) : List Int := (rng k).filter fun x => decide (0 < (ea.count x : Int)) && decide (cs.getD x.toNat 0 * b = t * (ea.count x : Int))
theorem endQ_succ (cs ea : List Int) (t b : Int) (k : Nat) : endQ cs ea t b (k + 1) = endQ cs ea t b k ++ if 0 < (ea.count ((k : Nat) : Int) : Int) ∧ cs.getD k 0 * b = t * (ea.count ((k : Nat) : Int) : Int) then [((k : Nat) : Int)] else [] := by
  unfold endQ
  rw [rng_succ, List.filter_append]
  congr 1
  rw [List.filter_cons, Int.toNat_natCast, List.filter_nil]
  by_cases h1 : 0 < (ea.count ((k : Nat) : Int) : Int)
  · by_cases h2 : cs.getD k 0 * b = t * (ea.count ((k : Nat) : Int) : Int)
    · rw [decide_eq_true h1, decide_eq_true h2, if_pos (⟨h1, h2⟩ : _ ∧ _)]
      rfl
    · rw [decide_eq_true h1, decide_eq_false h2, if_neg (fun z : _ ∧ _ => h2 z.2)]
      rfl
  · rw [decide_eq_false h1, if_neg (fun z : _ ∧ _ => h1 z.1)]
    rfl
theorem endQ_len (cs ea : List Int) (t b : Int) (k : Nat) : (endQ cs ea t b k).length ≤ k := by
  have := List.length_filter_le (fun x => decide (0 < (ea.count x : Int)) && decide (cs.getD x.toNat 0 * b = t * (ea.count x : Int))) (rng k)
  rwa [rng_len] at this
def left0 (cs : List Int) : List Rat := cs.map fun c => ((c : Int) : Rat)
theorem left0_at {cs : List Int} {x : Int} : leftAt (left0 cs) x = ((cs.getD x.toNat 0 : Int) : Rat) := by
  unfold leftAt left0
  rw [List.getD_eq_getElem?_getD, List.getElem?_map, List.getD_eq_getElem?_getD]
  cases cs[x.toNat]? <;> rfl
theorem eats_first {cs : List Int} {rest : List Int} (h : ∀ c ∈ cs, 0 ≤ c) : ∀ {o : List Int}, (∀ x ∈ o, 0 ≤ x ∧ x < (cs.length : Int)) → eats1 (left0 cs) (o ++ ((cs.length : Nat) : Int) :: rest) = firstQ cs o
  | [], _ => by
    rw [List.nil_append, eats1, if_pos (.inl (by unfold left0; rw [List.length_map])), firstQ]
  | x :: r, ho => by
    have hx := ho x (List.mem_cons_self ..)
    have ih := eats_first (rest := rest) h fun y hy => ho y (List.mem_cons_of_mem _ hy)
    have hc : 0 ≤ cs.getD x.toNat 0 := by
      rw [List.getD_eq_getElem?_getD, List.getElem?_eq_getElem (by omega)]
      exact h _ (List.getElem_mem _)
    rw [List.cons_append, eats1, ih, firstQ, left0_at]
    have hl : (left0 cs).length = cs.length := by unfold left0; rw [List.length_map]
    by_cases hp : 0 < cs.getD x.toNat 0
    · have hne : ((cs.getD x.toNat 0 : Int) : Rat) ≠ 0 := fun z => by
        have z' : ((cs.getD x.toNat 0 : Int) : Rat) = ((0 : Int) : Rat) := z
        rw [Rat.intCast_inj] at z'
        omega
      rw [if_pos hp, if_pos (.inr hne)]
    · have hz : cs.getD x.toNat 0 = 0 := by omega
      rw [if_neg hp, if_neg fun z => ?_]
      rcases z with z | z
      · rw [hl] at z
        omega
      · rw [hz] at z
        exact z rfl
theorem eaten_first {cs : List Int} {os : List (List Int)} (M : MTab (cs, os)) : eatenQ (fosQ (cs, os)) (left0 cs) = os.map (firstQ cs) := by
  unfold eatenQ fosQ
  rw [List.map_map]
  refine List.map_congr_left fun o ho => ?_
  show eats1 (left0 cs) (fullO cs.length o) = _
  unfold fullO
  rw [List.append_assoc]
  exact eats_first (fun c hc => (M.c c hc).1) fun x hx => M.os o ho x hx
theorem leastQ_snoc (q : Rat) (xs : List Rat) (x : Rat) : leastQ q (xs ++ [x]) = if x < leastQ q xs then x else leastQ q xs := by
  unfold leastQ
  rw [List.foldl_append]
  rfl
theorem divInt_lt {a b c d : Int} (hb : 0 < b) (hd : 0 < d) : Rat.divInt a b < Rat.divInt c d ↔ a * d < c * b := by
  have e1 := divInt_mul (z := a) hb
  have e2 := divInt_mul (z := c) hd
  have pb : (0 : Rat) < (b : Rat) := by exact_mod_cast (Rat.intCast_lt_intCast.mpr hb)
  have pd : (0 : Rat) < (d : Rat) := by exact_mod_cast (Rat.intCast_lt_intCast.mpr hd)
  rw [← Rat.intCast_lt_intCast, Rat.intCast_mul, Rat.intCast_mul, ← e1, ← e2]
  generalize Rat.divInt a b = x
  generalize Rat.divInt c d = y
  have pbd : 0 < (b : Rat) * (d : Rat) := Rat.mul_pos pb pd
  have h1 : x * (b : Rat) * (d : Rat) = x * ((b : Rat) * (d : Rat)) := by grind
  have h2 : y * (d : Rat) * (b : Rat) = y * ((b : Rat) * (d : Rat)) := by grind
  rw [h1, h2]
  exact (Rat.mul_lt_mul_right pbd).symm
theorem div_divInt {a : Int} {n : Nat} : ((a : Int) : Rat) / ((n : Nat) : Rat) = Rat.divInt a ((n : Nat) : Int) := by
  rw [Rat.divInt_eq_div, Rat.intCast_natCast]
theorem lenQ_spec {cs ea : List Int} (h6 : ea.length ≤ 6) (h9 : ∀ c ∈ cs, 0 ≤ c ∧ c ≤ 9) : ∀ k, k ≤ cs.length → 0 < (lenQ cs ea k).2 ∧ (lenQ cs ea k).2 ≤ 6 ∧ 0 ≤ (lenQ cs ea k).1 ∧ (lenQ cs ea k).1 ≤ 9 ∧ leastQ 1 (lensTo ea (left0 cs) k) = Rat.divInt (lenQ cs ea k).1 (lenQ cs ea k).2
  | 0, _ => by
    rw [lenQ]
    exact ⟨(by decide : (0 : Int) < 1), (by decide : (1 : Int) ≤ 6), (by decide : (0 : Int) ≤ 1), (by decide : (1 : Int) ≤ 9), rfl⟩
  | k + 1, hk => by
    obtain ⟨i1, i2, i3, i4, i5⟩ := lenQ_spec h6 h9 k (by omega)
    have hc : 0 ≤ cs.getD k 0 ∧ cs.getD k 0 ≤ 9 := by
      rw [List.getD_eq_getElem?_getD, List.getElem?_eq_getElem (by omega)]
      exact h9 _ (List.getElem_mem _)
    have hn : ea.count ((k : Nat) : Int) ≤ 6 := Nat.le_trans List.count_le_length h6
    have hl0 : (left0 cs).getD k 0 = ((cs.getD k 0 : Int) : Rat) := by
      have := left0_at (cs := cs) (x := (k : Int))
      unfold leftAt at this
      rw [Int.toNat_natCast] at this
      exact this
    have hcq : cntQ ea k = ea.count ((k : Nat) : Int) := rfl
    rw [lensTo_succ, hcq, lenQ]
    by_cases h0 : 0 < ea.count ((k : Nat) : Int)
    · rw [if_pos h0, leastQ_snoc, i5, hl0, div_divInt]
      have hiff := divInt_lt (a := cs.getD k 0) (b := ((ea.count ((k : Nat) : Int) : Nat) : Int)) (c := (lenQ cs ea k).1) (d := (lenQ cs ea k).2) (by omega) i1
      by_cases hlt : cs.getD k 0 * (lenQ cs ea k).2 < (lenQ cs ea k).1 * (ea.count ((k : Nat) : Int) : Int)
      · rw [if_pos ⟨by omega, hlt⟩, if_pos (hiff.mpr hlt)]
        exact ⟨by omega, by omega, hc.1, hc.2, rfl⟩
      · rw [if_neg fun z => hlt z.2, if_neg fun z => hlt (hiff.mp z)]
        exact ⟨i1, i2, i3, i4, rfl⟩
    · rw [if_neg h0, List.append_nil, if_neg fun z => h0 (by omega)]
      exact ⟨i1, i2, i3, i4, i5⟩
theorem mst_first {t : Table} (h : t.1.length + 1 ≠ 0) : ∀ k, ∃ r, (mst t (k + 1)).steps = (mst t 1).steps ++ r
  | 0 => ⟨[], by rw [List.append_nil]⟩
  | k + 1 => by
    obtain ⟨r, hr⟩ := mst_first h k
    show ∃ r', (mstep (fosQ t) (mst t (k + 1))).steps = _
    unfold mstep
    split
    · exact ⟨r, hr⟩
    · refine ⟨r ++ [(slenQ (eatenQ (fosQ t) (mst t (k + 1)).left) (mst t (k + 1)).left (mst t (k + 1)).time, eatenQ (fosQ t) (mst t (k + 1)).left, endedTo (eatenQ (fosQ t) (mst t (k + 1)).left) (newLeft (eatenQ (fosQ t) (mst t (k + 1)).left) (mst t (k + 1)).left (slenQ (eatenQ (fosQ t) (mst t (k + 1)).left) (mst t (k + 1)).left (mst t (k + 1)).time)) (mst t (k + 1)).left.length)], ?_⟩
      rw [← List.append_assoc, ← hr]
      rfl
def firstStep (cs : List Int) (os : List (List Int)) : StepQ := (Rat.divInt (lenQ cs (os.map (firstQ cs)) cs.length).1 (lenQ cs (os.map (firstQ cs)) cs.length).2, os.map (firstQ cs), endQ cs (os.map (firstQ cs)) (lenQ cs (os.map (firstQ cs)) cs.length).1 (lenQ cs (os.map (firstQ cs)) cs.length).2 cs.length)
theorem first_step {cs : List Int} {os : List (List Int)} (M : MTab (cs, os)) : ∃ r, (mealQ (cs, os)).steps = firstStep cs os :: r := by
  obtain ⟨r, hr⟩ := mst_first (t := (cs, os)) (by omega) cs.length
  refine ⟨r, ?_⟩
  show (mst (cs, os) (cs.length + 1)).steps = _
  rw [hr]
  have hE := eaten_first M
  have h6 : (os.map (firstQ cs)).length ≤ 6 := by rw [List.length_map]; exact M.a
  have hll : (left0 cs).length = cs.length := by unfold left0; rw [List.length_map]
  have S := lenQ_spec h6 M.c cs.length (Nat.le_refl _)
  have e1 : (mst (cs, os) 1).steps = [(slenQ (eatenQ (fosQ (cs, os)) (left0 cs)) (left0 cs) 1, eatenQ (fosQ (cs, os)) (left0 cs), endedTo (eatenQ (fosQ (cs, os)) (left0 cs)) (newLeft (eatenQ (fosQ (cs, os)) (left0 cs)) (left0 cs) (slenQ (eatenQ (fosQ (cs, os)) (left0 cs)) (left0 cs) 1)) (left0 cs).length)] := rfl
  rw [e1, hE]
  show [_] ++ r = _
  rw [List.singleton_append]
  congr 1
  generalize hea : os.map (firstQ cs) = ea at *
  have hs : slenQ ea (left0 cs) 1 = Rat.divInt (lenQ cs ea cs.length).1 (lenQ cs ea cs.length).2 := by
    unfold slenQ
    rw [hll]
    exact S.2.2.2.2
  unfold firstStep
  rw [hea, hs, hll]
  refine congrArg _ (congrArg _ ?_)
  have hsl := slen_spec (eaten := ea) (left := left0 cs) (time := 1) (by decide) fun k hk hc => by
    have I := M.inv 0
    have hk' : (left0 cs).getD k 0 = ((cs.getD k 0 : Int) : Rat) := by
      have := left0_at (cs := cs) (x := (k : Int))
      unfold leftAt at this
      rw [Int.toNat_natCast] at this
      exact this
    have hm : ((k : Nat) : Int) ∈ eatenQ (fosQ (cs, os)) (left0 cs) := by
      rw [hE]
      exact List.count_pos_iff.mp hc
    obtain ⟨o, ho, he⟩ := List.mem_map.mp hm
    have hF : ∀ o ∈ fosQ (cs, os), ∀ x ∈ o, 0 ≤ x ∧ x ≤ ((left0 cs).length : Int) := by
      rw [hll]
      exact (M.fo).rg
    have hne := (eats1_spec (hF o ho)).2.2
    rw [he] at hne
    have hne := hne (by omega)
    rw [left0_at, Int.toNat_natCast] at hne
    rw [hk']
    have hc9 : 0 ≤ cs.getD k 0 := by
      rw [List.getD_eq_getElem?_getD, List.getElem?_eq_getElem (by omega)]
      exact (M.c _ (List.getElem_mem _)).1
    have h0 : cs.getD k 0 ≠ 0 := fun z => hne (by rw [z]; rfl)
    exact Rat.intCast_pos.mpr (by omega)
  unfold endedTo endQ
  refine List.filter_congr fun x hx => ?_
  obtain ⟨k, hk, rfl⟩ : ∃ k : Nat, k < cs.length ∧ x = (k : Int) := by
    unfold rng at hx
    obtain ⟨k, hk, rfl⟩ := List.mem_map.mp hx
    exact ⟨k, List.mem_range.mp hk, by rw [Int.zero_add]⟩
  by_cases h0 : 0 < ea.count ((k : Nat) : Int)
  · rw [decide_eq_true h0, decide_eq_true (show 0 < (ea.count ((k : Nat) : Int) : Int) by omega), Bool.true_and, Bool.true_and]
    have hk' : (left0 cs).getD k 0 = ((cs.getD k 0 : Int) : Rat) := by
      have := left0_at (cs := cs) (x := (k : Int))
      unfold leftAt at this
      rw [Int.toNat_natCast] at this
      exact this
    have hle := hsl.all k (by omega) h0
    rw [hs, hk'] at hle
    unfold leftAt
    rw [Int.toNat_natCast, newLeft_get (by omega), hk']
    have hcq : cntQ ea k = ea.count ((k : Nat) : Int) := rfl
    rw [hcq] at hle ⊢
    obtain ⟨b0, _, _, _, _⟩ := S
    generalize (lenQ cs ea cs.length).1 = t at *
    generalize (lenQ cs ea cs.length).2 = b at *
    generalize ea.count ((k : Nat) : Int) = n at *
    generalize cs.getD k 0 = c at *
    have e := divInt_mul (z := t) b0
    have pb : (0 : Rat) < (b : Rat) := Rat.intCast_pos.mpr b0
    have key : c * b = t * (n : Int) ↔ (c : Rat) = Rat.divInt t b * ((n : Nat) : Rat) := by
      rw [← Rat.intCast_inj, Rat.intCast_mul, Rat.intCast_mul, ← e, Rat.intCast_natCast]
      generalize Rat.divInt t b = q
      constructor
      · intro h
        have h2 : (b : Rat) * ((c : Rat) - q * ((n : Nat) : Rat)) = 0 := by grind
        rcases Rat.mul_eq_zero.mp h2 with z | z
        · grind
        · grind
      · intro h
        grind
    rw [Bool.eq_iff_iff, decide_eq_true_eq, key]
    rw [Bool.not_eq_true', decide_eq_false_iff_not]
    constructor
    · intro h
      have : ¬ (Rat.divInt t b * ((n : Nat) : Rat) < (c : Rat)) := fun z => h (by grind)
      grind
    · intro h z
      rw [h] at z
      grind
  · rw [decide_eq_false h0, decide_eq_false (show ¬ 0 < (ea.count ((k : Nat) : Int) : Int) by omega)]
    rfl
end DL
namespace DL
open PySem PySem.Spec PyProof.Rows L2
/-! ### defs that change what they are handed -/
/-- an argument at the door of a def -/
def ArgE (K : PySem.W.Frag) (H : Hp) (U : Addr → Prop) (v : V) (S : List Addr) : DE → Prop
  | .fz d => S = [] ∧ Rp K (Hide H U) v d
  | .ow d => OwnR K H v d S
  | .ob u => ∃ a, v = .ref a ∧ S = [a] ∧ H a = some u ∧ Mut (some u)
  | .im f => S = [] ∧ ∃ g, f (some (some v)) = some g ∧ Same g (Hide H U)
  | .un => S = []
  | _ => False
def U0 (F : Nat → List Addr) : Addr → Prop := fun a => ∃ i, a ∈ F i
structure ArgF (K : PySem.W.Frag) (H : Hp) (vs : List V) (es : List DE) (F : Nat → List Addr) : Prop where
  len : vs.length = es.length
  ent : ∀ (i : Nat) (e : DE) (v : V), es[i]? = some e → vs[i]? = some v → ArgE K H (U0 F) v (F i) e
  nd : ∀ i, (F i).Nodup
  dj : ∀ i j a, a ∈ F i → a ∈ F j → i = j
  out : ∀ i, es.length ≤ i → F i = []
def outE (e : DE) : OE → DE
  | .n => match e with | .fz d => .fz d | .im f => .im f | _ => .un
  | .d x => .ow x
  | .o u => .ob u
/-- only what is owned is told anew -/
def isO : DE → OE → Bool
  | _, .n => true
  | .ow _, _ => true
  | .ob _, _ => true
  | _, _ => false
def okO : List DE → List OE → Bool
  | [], [] => true
  | e :: es, o :: os => isO e o && okO es os
  | _, _ => false
def outs : List DE → List OE → List DE
  | e :: es, o :: os => outE e o :: outs es os
  | _, _ => []
def spI (K : PySem.W.Frag) (Pre : List DE → Prop) (Post : List DE → PyData → List OE → Prop) : Sp := fun vs H Q _ => ∃ es F, ArgF K H vs es F ∧ Pre es ∧
  ∀ r v' os F' H', Post es r os → okO es os = true → lf r = true → Same (Hide H (U0 F)) H' → Rp K H' v' r → ArgF K H' vs (outs es os) F' → (∀ i, ∀ x ∈ F' i, (∃ j, x ∈ F j) ∨ H x = none) → Q v' H'
/-- the roots of what is handed in, kept beside the slots -/
def gh1 (as : Nat → Addr) (i : Nat) : DE → DE
  | .ow _ => .rt i (as i)
  | .ob _ => .rt i (as i)
  | _ => .un
def ghosts (as : Nat → Addr) : Nat → List DE → List DE
  | _, [] => []
  | i, e :: es => gh1 as i e :: ghosts as (i + 1) es
/-- what the slots tell of the arguments at the end -/
def EndR (ρ : DEnv) (as : Nat → Addr) (G : Nat) : Nat → List OE → Prop
  | _, [] => True
  | i, e :: os => (match e with | .n => True | .d x => ρ[i]? = some (.ow x) ∧ ρ[G + i]? = some (.rt i (as i)) | .o u => ρ[i]? = some (.ob u) ∧ ρ[G + i]? = some (.rt i (as i))) ∧ EndR ρ as G (i + 1) os
def bodyI (G : Nat) (as : Nat → Addr) (es : List DE) (Post : PyData → List OE → Prop) : DEnds where
  nx := fun ρ => ∃ os, okO es os = true ∧ EndR ρ as G 0 os ∧ Post .none os
  rt := fun o => ∃ r os, o = .io r as os ∧ okO es os = true ∧ Post r os
theorem endR_get {ρ : DEnv} {as : Nat → Addr} {G : Nat} : ∀ {os : List OE} {k i : Nat} {e : OE}, EndR ρ as G k os → os[i]? = some e → (match e with | .n => True | .d x => ρ[k + i]? = some (.ow x) ∧ ρ[G + (k + i)]? = some (.rt (k + i) (as (k + i))) | .o u => ρ[k + i]? = some (.ob u) ∧ ρ[G + (k + i)]? = some (.rt (k + i) (as (k + i))))
  | [], _, _, _, _, h => by simp at h
  | o :: os, k, 0, e, ⟨h1, _⟩, h => by
    cases h
    exact h1
  | o :: os, k, i + 1, e, ⟨_, h2⟩, h => by
    have := endR_get h2 (i := i) h
    rw [show k + (i + 1) = k + 1 + i by omega]
    exact this
section
variable {K : PySem.W.Frag} {B : Hp} {W : Addr → Prop} {ρ : DEnv} {σ : L2.St} {H : Hp} {F : Nat → List Addr}
/-- the footprints at the end -/
def outF (F : Nat → List Addr) (os : List OE) : Nat → List Addr := fun i => match os[i]? with
  | some (.d _) => F i
  | some (.o _) => F i
  | _ => []
theorem outF_sub {os : List OE} {i : Nat} {a : Addr} (h : a ∈ outF F os i) : a ∈ F i := by
  unfold outF at h
  split at h
  · exact h
  · exact h
  · cases h
theorem outF_nd (nd : ∀ i, (F i).Nodup) (os : List OE) (i : Nat) : (outF F os i).Nodup := by
  unfold outF
  split
  · exact nd i
  · exact nd i
  · exact .nil
theorem outF_out {os : List OE} {i : Nat} (h : os.length ≤ i) : outF F os i = [] := by
  unfold outF
  rw [List.getElem?_eq_none h]
theorem endR_out {as : Nat → Addr} {G : Nat} {os : List OE} (s : StF K B W ρ σ H F) (h : EndR ρ as G 0 os) : ∀ i e, os[i]? = some e → OutR K H (as i) (outF F os i) e := fun i e he => by
  have q := endR_get h he
  rw [Nat.zero_add] at q
  unfold outF
  rw [he]
  cases e with
  | n => rfl
  | d x =>
    obtain ⟨q1, q2⟩ := q
    obtain ⟨v, e1, e2⟩ := s.ent i _ q1
    obtain ⟨_, e3⟩ := s.ent _ _ q2
    rw [e1] at e3
    cases e3
    exact e2
  | o u =>
    obtain ⟨q1, q2⟩ := q
    obtain ⟨a, e1, e2, e4, e5⟩ := s.ent i _ q1
    obtain ⟨_, e3⟩ := s.ent _ _ q2
    rw [e1] at e3
    cases e3
    exact ⟨e2, e4, e5⟩
end
section
variable {X : Cx} {ρ : DEnv} {D : DEnds} {e : Expr} {pos : Pos}
/-- return e: the roots told -/
theorem s_retI {as : Nat → Addr} {G : Nat} (os : List OE) (hE : EndR ρ as G 0 os) (h : RV X e ρ fun r => lf r = true ∧ D.rt (.io r as os)) : S1 X (.Return (some e) pos) ρ D := fun B W σ H hW ⟨F, s⟩ =>
  ws_of (ps_ret pe_w) (we_mono (h _ σ H (s.mut hW) s.env) fun v H' ⟨e', r, p, hl, q⟩ => by
    have s' := s.mono e'
    refine ⟨s.same.trans e', .io r as os, ⟨dp_lf (hide_tups (hW.mono s'.same)) _ _ p hl, hl, outF F os, endR_out s' hE, outF_nd s.nd os, fun i j a h1 h2 => s.dj i j a (outF_sub h1) (outF_sub h2), fun i hi => outF_out hi, fun i a m => s.fresh i a (outF_sub m)⟩, q⟩)
theorem s_retIN {as : Nat → Addr} {G : Nat} (os : List OE) (hE : EndR ρ as G 0 os) (h : D.rt (.io .none as os)) : S1 X (.Return none pos) ρ D := fun B W σ H hW ⟨F, s⟩ =>
  ws_of ps_retN ⟨s.same, .io .none as os, ⟨Rp.non, rfl, outF F os, endR_out s hE, outF_nd s.nd os, fun i j a h1 h2 => s.dj i j a (outF_sub h1) (outF_sub h2), fun i hi => outF_out hi, fun i a m => s.fresh i a (outF_sub m)⟩, h⟩
end
theorem okO_len : ∀ {es : List DE} {os : List OE}, okO es os = true → os.length = es.length
  | [], [], _ => rfl
  | _ :: es, _ :: os, h => by
    have h' : (_ && okO es os) = true := h
    rw [Bool.and_eq_true] at h'
    rw [List.length_cons, List.length_cons, okO_len h'.2]
  | [], _ :: _, h => by cases h
  | _ :: _, [], h => by cases h
theorem okO_get : ∀ {es : List DE} {os : List OE}, okO es os = true → ∀ (i : Nat) (o : OE), os[i]? = some o → ∃ e, es[i]? = some e ∧ (outs es os)[i]? = some (outE e o) ∧ (o = .n ∨ (∃ d, e = .ow d) ∨ ∃ u, e = .ob u)
  | [], [], _, i, o, h => by simp at h
  | e :: es, o :: os, h, 0, o', h0 => by
    cases h0
    have h' : (isO e o && okO es os) = true := h
    rw [Bool.and_eq_true] at h'
    refine ⟨e, rfl, rfl, ?_⟩
    cases o with
    | n => exact .inl rfl
    | d x =>
      cases e with
      | ow d => exact .inr (.inl ⟨d, rfl⟩)
      | ob u => exact .inr (.inr ⟨u, rfl⟩)
      | _ => cases h'.1
    | o x =>
      cases e with
      | ow d => exact .inr (.inl ⟨d, rfl⟩)
      | ob u => exact .inr (.inr ⟨u, rfl⟩)
      | _ => cases h'.1
  | e :: es, o :: os, h, i + 1, o', h0 => by
    have h' : (_ && okO es os) = true := h
    rw [Bool.and_eq_true] at h'
    exact okO_get h'.2 i o' h0
  | [], _ :: _, h, _, _, _ => by cases h
  | _ :: _, [], h, _, _, _ => by cases h
theorem outs_len : ∀ {es : List DE} {os : List OE}, os.length = es.length → (outs es os).length = es.length
  | [], [], _ => rfl
  | _ :: es, _ :: os, h => by
    show (_ :: outs es os).length = _
    rw [List.length_cons, outs_len (Nat.succ.inj h)]
    rfl
  | [], _ :: _, h => by cases h
  | _ :: _, [], h => by cases h
/-- the arguments when the call is over -/
theorem argF_out {K : PySem.W.Frag} {H H' : Hp} {vs : List V} {es : List DE} {os : List OE} {F G : Nat → List Addr} {as : Nat → Addr} (A : ArgF K H vs es F) (ok : okO es os = true)
    (has : ∀ (i : Nat) (e : DE), es[i]? = some e → ((∃ d, e = .ow d) ∨ ∃ u, e = .ob u) → vs[i]? = some (.ref (as i))) (hO : ∀ i o, os[i]? = some o → OutR K H' (as i) (G i) o) (nd : ∀ i, (G i).Nodup) (dj : ∀ i j a, a ∈ G i → a ∈ G j → i = j) (out : ∀ i, os.length ≤ i → G i = [])
    (s : Same (Hide H (U0 F)) H') (fr : ∀ i, ∀ a ∈ G i, Hide H (U0 F) a = none) : ArgF K H' vs (outs es os) G := by
  have hl := okO_len ok
  have hs : Same (Hide H (U0 F)) (Hide H' (U0 G)) := fun b o e => by
    refine hide_some.mpr ⟨fun ⟨i, m⟩ => ?_, s b o e⟩
    rw [fr i b m] at e
    cases e
  refine ⟨by rw [A.len, outs_len hl], fun i e v he hv => ?_, nd, dj, fun i hi => out i (by rw [hl]; rw [outs_len hl] at hi; exact hi)⟩
  have hi : i < os.length := by
    have := (List.getElem?_eq_some_iff.mp he).1
    rw [outs_len hl] at this
    omega
  obtain ⟨o, ho⟩ : ∃ o, os[i]? = some o := ⟨_, List.getElem?_eq_getElem hi⟩
  obtain ⟨e0, h1, h2, h3⟩ := okO_get ok i o ho
  rw [h2] at he
  cases he
  have q := hO i o ho
  have a0 := A.ent i e0 v h1 hv
  cases o with
  | n =>
    have q : G i = [] := q
    cases e0 with
    | fz d => exact ⟨q, dp_sub hs _ _ a0.2⟩
    | im f =>
      obtain ⟨_, a, x1, x2⟩ := a0
      exact ⟨q, a, x1, x2.trans hs⟩
    | _ => exact q
  | d x =>
    rcases h3 with h3 | h3
    · cases h3
    have := has i e0 h1 h3
    rw [hv] at this
    cases this
    exact q
  | o u =>
    rcases h3 with h3 | h3
    · cases h3
    have := has i e0 h1 h3
    rw [hv] at this
    cases this
    exact ⟨_, rfl, q⟩
end DL
namespace DL
open PySem PySem.Spec PyProof.Rows L2
/-! ### the def that changes its arguments -/
theorem ghosts_len (as : Nat → Addr) : ∀ (k : Nat) (es : List DE), (ghosts as k es).length = es.length
  | _, [] => rfl
  | k, e :: es => by
    show (_ :: ghosts as (k + 1) es).length = _
    rw [List.length_cons, ghosts_len as (k + 1) es]
    rfl
theorem ghosts_get {as : Nat → Addr} : ∀ {k i : Nat} {es : List DE} {g : DE}, (ghosts as k es)[i]? = some g → g = .un ∨ (g = .rt (k + i) (as (k + i)) ∧ ∃ e, es[i]? = some e ∧ ((∃ d, e = .ow d) ∨ ∃ u, e = .ob u))
  | _, _, [], _, h => by simp [ghosts] at h
  | k, 0, e :: es, g, h => by
    have h' : gh1 as k e = g := Option.some.inj h
    subst h'
    cases e with
    | ow d => exact .inr ⟨rfl, _, rfl, .inl ⟨d, rfl⟩⟩
    | ob u => exact .inr ⟨rfl, _, rfl, .inr ⟨u, rfl⟩⟩
    | _ => exact .inl rfl
  | k, i + 1, e :: es, g, h => by
    have := ghosts_get (k := k + 1) (i := i) (es := es) h
    rw [show k + 1 + i = k + (i + 1) by omega] at this
    exact this
theorem uf_false (F : Nat → List Addr) : UF (fun _ => False) F = U0 F := funext fun a => propext ⟨fun h => by
  rcases h with h | h
  · exact h.elim
  · exact h, fun h => .inr h⟩
section
variable {P0 : Program} {w : World} {K : PySem.W.Frag} {mg : Str → Option Value} {base : Heap}
theorem st_startI {H : Hp} {N : List Str} {vs : List V} {es : List DE} {F : Nat → List Addr} {n : Nat} {as : Nat → Addr} (A : ArgF K H vs es F) (hn : es.length + n + es.length ≤ N.length)
    (has : ∀ (i : Nat) (e : DE), es[i]? = some e → ((∃ d, e = .ow d) ∨ ∃ u, e = .ob u) → vs[i]? = some (.ref (as i))) : StF K (Hide H (U0 F)) (fun _ => False) (es ++ List.replicate n .un ++ ghosts as 0 es) (L2.start N vs) H F := by
  have hsl : ∀ i v, vs[i]? = some v → (L2.start N vs)[i]? = some (some v) := fun i v h => by
    unfold L2.start
    have hi := (List.getElem?_eq_some_iff.mp h).1
    rw [List.getElem?_append_left (by rw [List.length_map]; exact hi), List.getElem?_map, h]
    rfl
  refine ⟨hide_sub, ?_, A.nd, A.dj, fun i a h => hide_none ⟨i, h⟩, fun i e h => ?_, fun i h => A.out i ?_⟩
  · unfold L2.start
    have := A.len
    simp only [List.length_append, List.length_replicate, ghosts_len, List.length_map]
    omega
  · rw [uf_false]
    by_cases hi : i < es.length
    · rw [List.append_assoc, List.getElem?_append_left hi] at h
      obtain ⟨v, hv⟩ : ∃ v, vs[i]? = some v := ⟨_, List.getElem?_eq_getElem (by rw [A.len]; exact hi)⟩
      have q := A.ent i e v h hv
      have e1 := hsl i v hv
      cases e with
      | un => exact q
      | fz d => exact ⟨q.1, v, e1, q.2⟩
      | ow d => exact ⟨v, e1, q⟩
      | ob u =>
        obtain ⟨a, x1, x2, x3, x4⟩ := q
        subst x1
        exact ⟨a, e1, x2, x3, x4⟩
      | im f =>
        rw [e1]
        exact q
      | al _ _ => exact q.elim
      | vl _ => exact q.elim
      | sh _ => exact q.elim
      | rt _ _ => exact q.elim
      | io _ _ _ => exact q.elim
    · have ho := A.out i (by omega)
      by_cases h2 : i < es.length + n
      · rw [List.getElem?_append_left (by rw [List.length_append, List.length_replicate]; exact h2), List.getElem?_append_right (by omega), List.getElem?_replicate] at h
        split at h
        · cases h
          exact ho
        · cases h
      · rw [List.getElem?_append_right (by rw [List.length_append, List.length_replicate]; omega)] at h
        rcases ghosts_get h with rfl | ⟨rfl, e0, g1, g2⟩
        · exact ho
        · rw [Nat.zero_add]
          exact ⟨ho, hsl _ _ (has _ e0 g1 g2)⟩
  · by_cases hi : i < es.length
    · rw [List.append_assoc, List.getElem?_append_left hi, List.getElem?_eq_getElem hi] at h
      cases h
    · omega
def FnI (P0 : Program) (w : World) (K : PySem.W.Frag) (mg : Str → Option Value) (base : Heap) (x : Str) (k : Nat) (Pre : List DE → Prop) (Post : List DE → PyData → List OE → Prop) : Prop :=
  ∃ f fd ps, FnOk P0 w K mg base CX0 k f fd ps (spI K Pre Post) ∧ mg x = some (.ref f) ∧ PySem.W.keepIn K (.ref f) = true ∧ Binds K fd ps []
theorem own_ref {K : PySem.W.Frag} {H : Hp} {v : V} {d : PyData} {S : List Addr} (o : OwnR K H v d S) (l : lf d = false) : ∃ a, v = .ref a := by
  cases o with
  | flt _ h => rw [h] at l; cases l
  | lst _ _ => exact ⟨_, rfl⟩
  | tup _ _ => exact ⟨_, rfl⟩
/-- what is owned at the door is no plain datum -/
def ownL : List DE → Bool
  | [] => true
  | .ow d :: es => !lf d && ownL es
  | _ :: es => ownL es
theorem ownL_get : ∀ {es : List DE} {i : Nat} {d : PyData}, ownL es = true → es[i]? = some (.ow d) → lf d = false
  | [], _, _, _, h => by simp at h
  | e :: es, 0, d, l, h => by
    cases h
    have l' : (!lf d && ownL es) = true := l
    rw [Bool.and_eq_true] at l'
    simpa using l'.1
  | e :: es, i + 1, d, l, h => by
    have l' : ownL es = true := by
      cases e with
      | ow d' =>
        have l' : (!lf d' && ownL es) = true := l
        rw [Bool.and_eq_true] at l'
        exact l'.2
      | _ => exact l
    exact ownL_get (es := es) l' h
theorem fn_I {x : Str} {st : Stmt} {N : List Str} {ps : List Str} {k : Nat} {Pre : List DE → Prop} {Post : List DE → PyData → List OE → Prop} (n : Nat) (T : TxF K mg x st ps) (S : FnScope N ps (defScope st)) (hN : ps.length + n + ps.length = N.length)
    (hP : ∀ es, Pre es → es.length = ps.length ∧ ownL es = true)
    (body : ∀ (f : Addr) (cdv : Value) (A : Around) (outer : List Env) (s : Shared) (H : Hp) (E : XK), Room k (A.deeper (envOfC x (defScope st) s.heap.objs.size f cdv)) → ∀ es (as : Nat → Addr), Pre es →
      SD (cxOf CX0 P0 w K mg base N x (defScope st) f cdv A outer s H E).nox (defBody st) (es ++ List.replicate n .un ++ ghosts as 0 es) (bodyI (ps.length + n) as es (Post es))) : FnI P0 w K mg base x (k + 1) Pre Post := by
  obtain ⟨f, fd, F, hm, hbi⟩ := T
  refine ⟨f, fd, ps, ?_, hm, F.kp, hbi⟩
  refine F.ok S (fun vs H Q E ⟨es, F0, h1, h2, _⟩ => by rw [h1.len]; exact (hP es h2).1) (fun cdv A outer s H vs Q E hr ⟨es, F0, h1, h2, h3⟩ => ?_)
  refine ⟨_, pb_w, ?_⟩
  obtain ⟨hlen, hown⟩ := hP es h2
  obtain ⟨as, hasd⟩ : ∃ as : Nat → Addr, as = fun i => match vs[i]? with | some (.ref a) => a | _ => 0 := ⟨_, rfl⟩
  have has : ∀ (i : Nat) (e : DE), es[i]? = some e → ((∃ d, e = .ow d) ∨ ∃ u, e = .ob u) → vs[i]? = some (.ref (as i)) := fun i e he ho => by
    obtain ⟨v, hv⟩ : ∃ v, vs[i]? = some v := ⟨_, List.getElem?_eq_getElem (by rw [h1.len]; exact (List.getElem?_eq_some_iff.mp he).1)⟩
    have q := h1.ent i e v he hv
    have : ∃ a, v = .ref a := by
      rcases ho with ⟨d, rfl⟩ | ⟨u, rfl⟩
      · exact own_ref q (ownL_get hown he)
      · obtain ⟨a, x1, _⟩ := q
        exact ⟨a, x1⟩
    obtain ⟨a, rfl⟩ := this
    rw [hasd]
    show _ = some (V.ref (match vs[i]? with | some (.ref a) => a | _ => 0))
    rw [hv]
  have b := body f cdv A outer s H E hr es as h2 (Hide H (U0 F0)) (fun _ => False) (L2.start N vs) H (fun a z => z.elim) ⟨_, st_startI h1 (by omega) has⟩
  refine wb_mono b (fun σ' H' ⟨ρ', ⟨F', s'⟩, os, ok, hE, q⟩ => ?_) (fun v H' ⟨e, o, r, q⟩ => ?_) (fun _ _ ⟨_, _, q⟩ => False.elim q) (fun _ _ ⟨_, _, q⟩ => False.elim q)
  · have fr : ∀ i, ∀ a ∈ outF F' os i, Hide H (U0 F0) a = none := fun i a m => s'.fresh i a (outF_sub m)
    refine h3 .none .non os (outF F' os) H' q ok rfl s'.same .non (argF_out h1 ok has (endR_out s' hE) (outF_nd s'.nd os) (fun i j a m1 m2 => s'.dj i j a (outF_sub m1) (outF_sub m2)) (fun i hi => outF_out hi) s'.same fr) fun i a m => ?_
    have := fr i a m
    by_cases hu : U0 F0 a
    · exact .inl hu
    · rw [hide_eq hu] at this
      exact .inr this
  · obtain ⟨d, os, rfl, ok, q⟩ := q
    obtain ⟨r1, r2, G, r3, r4, r5, r6, r7⟩ := r
    refine h3 d v os G H' q ok r2 e (dp_sub hide_sub _ _ r1) (argF_out h1 ok has r3 r4 r5 r6 e r7) fun i a m => ?_
    have := r7 i a m
    by_cases hu : U0 F0 a
    · exact .inl hu
    · rw [hide_eq hu] at this
      exact .inr this
end
end DL
namespace DL
open PySem PySem.Spec PyProof.Rows L2
/-! ### in-out arguments: the caller's side -/
def own1 : DE → Bool
  | .ow _ => true
  | .ob _ => true
  | _ => false
theorem own1_of {e : DE} (h : own1 e = true) : (∃ d, e = .ow d) ∨ ∃ u, e = .ob u := by
  cases e with
  | ow d => exact .inl ⟨d, rfl⟩
  | ob u => exact .inr ⟨u, rfl⟩
  | _ => cases h
inductive ArgsS (K : PySem.W.Frag) (U : Addr → Prop) (ρ : DEnv) (σ : L2.St) (H : Hp) : List V → List (DE × Option Nat) → Prop
  | nil : ArgsS K U ρ σ H [] []
  | fz {v : V} {d : PyData} {vs : List V} {as : List (DE × Option Nat)} : Rp K (Hide H U) v d → ArgsS K U ρ σ H vs as → ArgsS K U ρ σ H (v :: vs) ((.fz d, none) :: as)
  | slot {v : V} {e : DE} {k : Nat} {vs : List V} {as : List (DE × Option Nat)} : ρ[k]? = some e → own1 e = true → σ[k]? = some (some v) → ArgsS K U ρ σ H vs as → ArgsS K U ρ σ H (v :: vs) ((e, some k) :: as)
theorem argsS_len {K : PySem.W.Frag} {U : Addr → Prop} {ρ : DEnv} {σ : L2.St} {H : Hp} {vs : List V} {as : List (DE × Option Nat)} (h : ArgsS K U ρ σ H vs as) : vs.length = as.length := by
  induction h with
  | nil => rfl
  | fz _ _ ih => rw [List.length_cons, List.length_cons, ih]
  | slot _ _ _ _ ih => rw [List.length_cons, List.length_cons, ih]
theorem argsS_get {K : PySem.W.Frag} {U : Addr → Prop} {ρ : DEnv} {σ : L2.St} {H : Hp} {vs : List V} {as : List (DE × Option Nat)} (h : ArgsS K U ρ σ H vs as) : ∀ {i : Nat} {e : DE} {o : Option Nat} {v : V}, as[i]? = some (e, o) → vs[i]? = some v →
    (o = none ∧ ∃ d, e = .fz d ∧ Rp K (Hide H U) v d) ∨ ∃ k, o = some k ∧ ρ[k]? = some e ∧ own1 e = true ∧ σ[k]? = some (some v) := by
  induction h with
  | nil => intro i e o v h; simp at h
  | fz p _ ih =>
    intro i e o v h1 h2
    cases i with
    | zero =>
      cases h1
      cases h2
      exact .inl ⟨rfl, _, rfl, p⟩
    | succ i => exact ih h1 h2
  | slot p1 p2 p3 _ ih =>
    intro i e o v h1 h2
    cases i with
    | zero =>
      cases h1
      cases h2
      exact .inr ⟨_, rfl, p1, p2, p3⟩
    | succ i => exact ih h1 h2
def RAI (X : Cx) (es : List Expr) (ρ : DEnv) (Q : List (DE × Option Nat) → Prop) : Prop := ∀ (U : Addr → Prop) (σ : L2.St) (H : Hp), MutU U H → EnvR X.K U ρ σ H → WA X es σ H fun vs H' => Same H H' ∧ ∃ as, ArgsS X.K U ρ σ H' vs as ∧ Q as
section
variable {X : Cx} {ρ : DEnv} {a : Expr} {es : List Expr} {p : Pos} {x : Str}
theorem rai_nil {Q : List (DE × Option Nat) → Prop} (q : Q []) : RAI X [] ρ Q := fun U σ H m E => wa_of pa_nil ⟨Same.refl _, [], .nil, q⟩
theorem rai_fz {Q : List (DE × Option Nat) → Prop} (h : RF X a ρ fun d => RAI X es ρ fun as => Q ((.fz d, none) :: as)) (hs : starEach (a :: es) X.env = (false, eval a X.env) :: starEach es X.env := by rfl) : RAI X (a :: es) ρ Q := fun U σ H m E => by
  refine wa_of (pa_cons pe_w pa_w hs) (we_mono (h U σ H m E) fun v H1 ⟨e1, d, p, h2⟩ => ?_)
  exact wa_mono (h2 U σ H1 (m.mono e1) (envR_same E e1)) fun vs H2 ⟨e2, as, r, q⟩ => ⟨e1.trans e2, _, .fz (dp_sub (hide_same e2 fun _ _ _ z => z) _ _ p) r, q⟩
theorem rai_slot (k : Nat) {e : DE} {Q : List (DE × Option Nat) → Prop} (ho : ρ[k]? = some e) (hw : own1 e = true) (h : RAI X es ρ fun as => Q ((e, some k) :: as)) (hN : X.N[k]? = some x := by rfl) (hv : Vis X.env.scope x := by first | exact Or.inl rfl | exact Or.inr (Or.inl rfl) | exact Or.inr (Or.inr rfl)) (hd : (x == ("__debug__" : Str)) = false := by decide) (hcd : (x == ("__classdict__" : Str)) = false := by decide)
    (hs : starEach (.Name x p :: es) X.env = (false, eval (.Name x p) X.env) :: starEach es X.env := by rfl) : RAI X (.Name x p :: es) ρ Q := fun U σ H m E => by
  obtain ⟨v, e1⟩ : ∃ v, σ[k]? = some (some v) := by
    have q := E.get k e ho
    rcases own1_of hw with ⟨d, rfl⟩ | ⟨u, rfl⟩
    · obtain ⟨v, _, e1, _⟩ := q
      exact ⟨v, e1⟩
    · obtain ⟨a, e1, _⟩ := q
      exact ⟨_, e1⟩
  refine wa_of (pa_cons (pe_var hN hv hd hcd) pa_w hs) ⟨v, e1, ?_⟩
  exact wa_mono (h U σ H m E) fun vs H2 ⟨e2, as, r, q⟩ => ⟨e2, _, .slot ho hw e1 r, q⟩
end
/-! ### what the slots hold behind the call -/
def slotsOf : List (DE × Option Nat) → List Nat
  | [] => []
  | (_, some k) :: as => k :: slotsOf as
  | (_, none) :: as => slotsOf as
def kilL (ks : List Nat) : DE → DE
  | .al j p => if ks.contains j then .un else .al j p
  | e => e
/-- the slots' entries go, aliases into them, too; roots stay -/
def dropL (ρ : DEnv) (ks : List Nat) : DEnv := ks.foldl (fun ρ k => ρ.set k .un) (ρ.map (kilL ks))
def putB (ρ : DEnv) : List (DE × Option Nat) → List OE → DEnv
  | (e, some k) :: as, o :: os => putB (ρ.set k (outE e o)) as os
  | (_, none) :: as, _ :: os => putB ρ as os
  | _, _ => ρ
def backE (ρ : DEnv) (as : List (DE × Option Nat)) (os : List OE) : DEnv := putB (dropL ρ (slotsOf as)) as os
theorem slotsOf_mem : ∀ {as : List (DE × Option Nat)} {k : Nat}, k ∈ slotsOf as ↔ ∃ (i : Nat) (e : DE), as[i]? = some (e, some k)
  | [], k => by
    constructor
    · intro h; cases h
    · rintro ⟨i, e, h⟩; simp at h
  | (e, some k') :: as, k => by
    show k ∈ k' :: slotsOf as ↔ _
    rw [List.mem_cons, slotsOf_mem]
    constructor
    · rintro (rfl | ⟨i, e2, h⟩)
      · exact ⟨0, e, rfl⟩
      · exact ⟨i + 1, e2, h⟩
    · rintro ⟨i, e2, h⟩
      cases i with
      | zero =>
        cases h
        exact .inl rfl
      | succ i => exact .inr ⟨i, e2, h⟩
  | (e, none) :: as, k => by
    show k ∈ slotsOf as ↔ _
    rw [slotsOf_mem]
    constructor
    · rintro ⟨i, e2, h⟩
      exact ⟨i + 1, e2, h⟩
    · rintro ⟨i, e2, h⟩
      cases i with
      | zero => cases h
      | succ i => exact ⟨i, e2, h⟩
theorem slot_inj : ∀ {as : List (DE × Option Nat)} {i j k : Nat} {e e' : DE}, (slotsOf as).Nodup → as[i]? = some (e, some k) → as[j]? = some (e', some k) → i = j
  | [], _, _, _, _, _, _, h, _ => by simp at h
  | (_, none) :: as, i, j, k, e, e', nd, h1, h2 => by
    cases i with
    | zero => cases h1
    | succ i =>
      cases j with
      | zero => cases h2
      | succ j => rw [slot_inj (as := as) nd h1 h2]
  | (e0, some k0) :: as, i, j, k, e, e', nd, h1, h2 => by
    have nd' : (k0 :: slotsOf as).Nodup := nd
    have nd' := List.nodup_cons.mp nd'
    cases i with
    | zero =>
      cases j with
      | zero => rfl
      | succ j =>
        cases h1
        exact (nd'.1 (slotsOf_mem.mpr ⟨j, e', h2⟩)).elim
    | succ i =>
      cases j with
      | zero =>
        cases h2
        exact (nd'.1 (slotsOf_mem.mpr ⟨i, e, h1⟩)).elim
      | succ j => rw [slot_inj (as := as) nd'.2 h1 h2]
/-- the footprints of the arguments -/
def argFoot (F : Nat → List Addr) (as : List (DE × Option Nat)) : Nat → List Addr := fun i => match as[i]? with
  | some (_, some k) => F k
  | _ => []
theorem argFoot_mem {F : Nat → List Addr} {as : List (DE × Option Nat)} {i : Nat} {x : Addr} (h : x ∈ argFoot F as i) : ∃ e k, as[i]? = some (e, some k) ∧ x ∈ F k := by
  unfold argFoot at h
  split at h
  · rename_i e k he
    exact ⟨e, k, he, h⟩
  · cases h
theorem argF_in {K : PySem.W.Frag} {B : Hp} {W : Addr → Prop} {ρ : DEnv} {σ : L2.St} {H : Hp} {F : Nat → List Addr} {vs : List V} {as : List (DE × Option Nat)} (s : StF K B W ρ σ H F) (h : ArgsS K (UF W F) ρ σ H vs as) (nd : (slotsOf as).Nodup) : ArgF K H vs (as.map (·.1)) (argFoot F as) := by
  refine ⟨by rw [argsS_len h, List.length_map], fun i e v he hv => ?_, fun i => ?_, fun i j a h1 h2 => ?_, fun i hi => ?_⟩
  · rw [List.getElem?_map] at he
    obtain ⟨⟨e0, o⟩, ha, rfl⟩ := Option.map_eq_some_iff.mp he
    rcases argsS_get h ha hv with ⟨rfl, d, rfl, p⟩ | ⟨k, rfl, q1, q2, q3⟩
    · refine ⟨by unfold argFoot; rw [ha], dp_sub (hide_same (Same.refl _) fun x o _ z => ?_) _ _ p⟩
      obtain ⟨i, z⟩ := z
      obtain ⟨e, k, _, m⟩ := argFoot_mem z
      exact .inr ⟨k, m⟩
    · have hf : argFoot F as i = F k := by unfold argFoot; rw [ha]
      rw [hf]
      have q := s.ent k e0 q1
      rcases own1_of q2 with ⟨d, rfl⟩ | ⟨u, rfl⟩
      · obtain ⟨v', x1, x2⟩ := q
        rw [q3] at x1
        cases x1
        exact x2
      · obtain ⟨a, x1, x2, x3, x4⟩ := q
        rw [q3] at x1
        cases x1
        exact ⟨a, rfl, x2, x3, x4⟩
  · unfold argFoot
    split
    · exact s.nd _
    · exact .nil
  · obtain ⟨e, k, x1, x2⟩ := argFoot_mem h1
    obtain ⟨e', k', y1, y2⟩ := argFoot_mem h2
    have := s.dj k k' a x2 y2
    subst this
    exact slot_inj nd x1 y1
  · unfold argFoot
    rw [List.getElem?_eq_none (by rw [List.length_map] at hi; exact hi)]
end DL
namespace DL
open PySem PySem.Spec PyProof.Rows L2
/-! ### in-out arguments: the call -/
section
variable {K : PySem.W.Frag} {B : Hp} {W : Addr → Prop} {ρ : DEnv} {σ : L2.St} {H H1 : Hp} {F : Nat → List Addr}
/-- a slot of which nothing is known takes what is owned by nobody -/
theorem st_adoptE {S : List Addr} {i : Nat} {e' : DE} (s : StF K B (fun a => W a ∨ a ∈ S) ρ σ H F) (hi : ρ[i]? = some .un) (hE : ∀ U ρ', Ent K U ρ' σ H σ[i]? S e') (nS : S.Nodup) (hS : ∀ x ∈ S, B x = none ∧ ∀ k, x ∉ F k) : StF K B W (ρ.set i e') σ H (setF F i S) := by
  have fi : F i = [] := s.ent i _ hi
  have il : i < ρ.length := (List.getElem?_eq_some_iff.mp hi).1
  have e : UF W (setF F i S) = UF (fun a => W a ∨ a ∈ S) F := funext fun a => propext ⟨fun h => by
    rcases h with h | ⟨k, h⟩
    · exact .inl (.inl h)
    · by_cases hk : k = i
      · rw [hk, setF_same] at h
        exact .inl (.inr h)
      · rw [setF_ne hk] at h
        exact .inr ⟨k, h⟩, fun h => by
    rcases h with (h | h) | ⟨k, h⟩
    · exact .inl h
    · exact .inr ⟨i, by rw [setF_same]; exact h⟩
    · by_cases hk : k = i
      · rw [hk, fi] at h
        cases h
      · exact .inr ⟨k, by rw [setF_ne hk]; exact h⟩⟩
  refine ⟨s.same, by rw [List.length_set]; exact s.len, fun k => ?_, fun k l x h1 h2 => ?_, fun k x h1 => ?_, fun k o ho => ?_, fun k ho => ?_⟩
  · by_cases hk : k = i
    · rw [hk, setF_same]; exact nS
    · rw [setF_ne hk]; exact s.nd k
  · by_cases hk : k = i
    · rw [hk, setF_same] at h1
      by_cases hl : l = i
      · rw [hk, hl]
      · rw [setF_ne hl] at h2
        exact ((hS x h1).2 l h2).elim
    · rw [setF_ne hk] at h1
      by_cases hl : l = i
      · rw [hl, setF_same] at h2
        exact ((hS x h2).2 k h1).elim
      · rw [setF_ne hl] at h2
        exact s.dj k l x h1 h2
  · by_cases hk : k = i
    · rw [hk, setF_same] at h1
      exact (hS x h1).1
    · rw [setF_ne hk] at h1
      exact s.fresh k x h1
  · rw [e]
    by_cases hk : k = i
    · subst hk
      rw [List.getElem?_set_self il] at ho
      cases ho
      rw [setF_same]
      exact hE _ _
    · rw [List.getElem?_set_ne (Ne.symm hk)] at ho
      rw [setF_ne hk]
      have q := s.ent k o ho
      cases o with
      | al k2 q0 =>
        obtain ⟨x1, v, w2, d2, d2', x2, x3, x4, x5⟩ := q
        have n : i ≠ k2 := fun z => by
          rw [← z, hi] at x3
          cases x3
        exact ⟨x1, v, w2, d2, d2', x2, by rw [List.getElem?_set_ne n]; exact x3, x4, x5⟩
      | un => exact q
      | fz d => exact q
      | ow d => exact q
      | vl v => exact q
      | sh ds => exact q
      | ob _ => exact q
      | rt _ _ => exact q
      | im _ => exact q
      | io _ _ _ => exact q
  · have hk : k ≠ i := fun z => by
      rw [z, List.getElem?_set_self il] at ho
      cases ho
    rw [List.getElem?_set_ne (Ne.symm hk)] at ho
    rw [setF_ne hk]
    exact s.out k ho

theorem setUn_get : ∀ (ks : List Nat) (r : DEnv) (i : Nat), (ks.foldl (fun ρ k => ρ.set k .un) r)[i]? = (r[i]?).map fun e => if i ∈ ks then .un else e
  | [], r, i => by
    show r[i]? = _
    cases r[i]? <;> simp
  | k :: ks, r, i => by
    show (ks.foldl (fun ρ k => ρ.set k .un) (r.set k .un))[i]? = _
    rw [setUn_get ks (r.set k .un) i]
    by_cases hk : k = i
    · subst hk
      by_cases hl : k < r.length
      · rw [List.getElem?_set_self hl, List.getElem?_eq_getElem hl]
        simp
      · rw [List.getElem?_eq_none (by rw [List.length_set]; omega), List.getElem?_eq_none (by omega)]
        rfl
    · rw [List.getElem?_set_ne hk]
      cases r[i]? with
      | none => rfl
      | some e =>
        show some (if i ∈ ks then DE.un else e) = some (if i ∈ k :: ks then DE.un else e)
        by_cases hm : i ∈ ks
        · rw [if_pos hm, if_pos (List.mem_cons_of_mem _ hm)]
        · rw [if_neg hm, if_neg fun z => by
            rcases List.mem_cons.mp z with z | z
            · exact hk z.symm
            · exact hm z]
theorem dropL_get {ks : List Nat} {i : Nat} : (dropL ρ ks)[i]? = (ρ[i]?).map fun e => if i ∈ ks then .un else kilL ks e := by
  unfold dropL
  rw [setUn_get, List.getElem?_map, Option.map_map]
  rfl
theorem dropL_len {ks : List Nat} : (dropL ρ ks).length = ρ.length := by
  unfold dropL
  have : ∀ (ks : List Nat) (r : DEnv), (ks.foldl (fun ρ k => ρ.set k .un) r).length = r.length := fun ks => by
    induction ks with
    | nil => intro r; rfl
    | cons k ks ih =>
      intro r
      show (ks.foldl (fun ρ k => ρ.set k .un) (r.set k .un)).length = _
      rw [ih, List.length_set]
  rw [this, List.length_map]
def dropF (F : Nat → List Addr) (ks : List Nat) : Nat → List Addr := fun i => if i ∈ ks then [] else F i
theorem dropF_in {ks : List Nat} {i : Nat} (h : i ∈ ks) : dropF F ks i = [] := if_pos h
theorem dropF_ne {ks : List Nat} {i : Nat} (h : i ∉ ks) : dropF F ks i = F i := if_neg h
/-- slots given up: what they own is nobody's -/
theorem st_dropL {ks : List Nat} (s : StF K B W ρ σ H F) : StF K B (fun a => W a ∨ ∃ k ∈ ks, a ∈ F k) (dropL ρ ks) σ H (dropF F ks) := by
  have hu : UF (fun a => W a ∨ ∃ k ∈ ks, a ∈ F k) (dropF F ks) = UF W F := funext fun a => propext ⟨fun h => by
    rcases h with (h | ⟨k, _, h⟩) | ⟨i, h⟩
    · exact .inl h
    · exact .inr ⟨k, h⟩
    · by_cases hi : i ∈ ks
      · rw [dropF_in hi] at h
        cases h
      · rw [dropF_ne hi] at h
        exact .inr ⟨i, h⟩, fun h => by
    rcases h with h | ⟨i, h⟩
    · exact .inl (.inl h)
    · by_cases hi : i ∈ ks
      · exact .inl (.inr ⟨i, hi, h⟩)
      · exact .inr ⟨i, by rw [dropF_ne hi]; exact h⟩⟩
  have sub : ∀ {i a}, a ∈ dropF F ks i → a ∈ F i := fun {i a} h => by
    by_cases hi : i ∈ ks
    · rw [dropF_in hi] at h
      cases h
    · rw [dropF_ne hi] at h
      exact h
  refine ⟨s.same, by rw [dropL_len]; exact s.len, fun i => ?_, fun i j a h1 h2 => s.dj i j a (sub h1) (sub h2), fun i a h => s.fresh i a (sub h), fun i e he => ?_, fun i hi => ?_⟩
  · by_cases hi : i ∈ ks
    · rw [dropF_in hi]; exact .nil
    · rw [dropF_ne hi]; exact s.nd i
  · rw [hu]
    rw [dropL_get] at he
    obtain ⟨e0, h0, h1⟩ := Option.map_eq_some_iff.mp he
    by_cases hi : i ∈ ks
    · rw [if_pos hi] at h1
      subst h1
      exact dropF_in hi
    · rw [if_neg hi] at h1
      subst h1
      rw [dropF_ne hi]
      have q := s.ent i e0 h0
      cases e0 with
      | al j p =>
        obtain ⟨x1, v, w2, d2, d2', x2, x3, x4, x5⟩ := q
        show Ent K _ _ σ H σ[i]? (F i) (if ks.contains j then .un else .al j p)
        by_cases hj : j ∈ ks
        · rw [if_pos (List.contains_iff_mem.mpr hj)]
          exact x1
        · rw [if_neg fun z => hj (List.contains_iff_mem.mp z)]
          exact ⟨x1, v, w2, d2, d2', x2, by rw [dropL_get, x3]; show some (if j ∈ ks then _ else _) = _; rw [if_neg hj]; rfl, x4, x5⟩
      | un => exact q
      | fz d => exact q
      | ow d => exact q
      | vl v => exact q
      | sh ds => exact q
      | ob u => exact q
      | rt j a => exact q
      | im f => exact q
      | io _ _ _ => exact q
  · rw [dropL_get] at hi
    cases hr : ρ[i]? with
    | none =>
      by_cases hk : i ∈ ks
      · exact dropF_in hk
      · rw [dropF_ne hk]; exact s.out i hr
    | some e => rw [hr] at hi; cases hi
/-- the heap changes at what is nobody's -/
theorem st_frameI {M M' : Addr → Prop} (s : StF K B (fun a => W a ∨ M a) ρ σ H F) (hM : ∀ x, M x → B x = none ∧ (∀ k, x ∉ F k) ∧ ∃ u, H x = some u ∧ Mut (some u)) (fr : ∀ a o, H a = some o → ¬ M a → H1 a = some o) (hM' : ∀ x, M' x → M x ∨ H x = none) : StF K B (fun a => W a ∨ M' a) ρ σ H1 F := by
  have nt : ∀ {a o}, H a = some o → ¬ Mut (some o) → ¬ M a := fun {a o} h n m => by
    obtain ⟨_, _, xs, hx, mx⟩ := hM a m
    rw [h] at hx
    cases hx
    exact n mx
  have t1 : Tups H H1 := fun a xs h => by
    rcases h with h | ⟨o, h⟩
    · exact .inl (fr a _ h (nt h fun z => z))
    · exact .inr ⟨o, fr a _ h (nt h fun z => z)⟩
  have t2 : ∀ a xs, H a = some (.tup xs) → H1 a = some (.tup xs) := fun a xs h => fr a _ h (nt h fun z => z)
  have nF : ∀ {k a}, a ∈ F k → ¬ M a := fun {k a} h m => (hM a m).2.1 k h
  have hh : Same (Hide H (UF (fun a => W a ∨ M a) F)) (Hide H1 (UF (fun a => W a ∨ M' a) F)) := fun a o h => by
    obtain ⟨n, h⟩ := hide_some.mp h
    refine hide_some.mpr ⟨fun z => ?_, fr a o h fun m => n (.inl (.inr m))⟩
    rcases z with (z | z) | z
    · exact n (.inl (.inl z))
    · rcases hM' a z with z | z
      · exact n (.inl (.inr z))
      · rw [h] at z
        cases z
    · exact n (.inr z)
  refine ⟨fun a o h => ?_, s.len, s.nd, s.dj, s.fresh, fun i e h => ?_, s.out⟩
  · refine fr a o (s.same a o h) fun m => ?_
    rw [(hM a m).1] at h
    cases h
  · have E := s.ent i e h
    cases e with
    | un => exact E
    | fz d =>
      obtain ⟨a, v, b, c⟩ := E
      exact ⟨a, v, b, dp_sub hh _ _ c⟩
    | ow d =>
      obtain ⟨v, b, c⟩ := E
      exact ⟨v, b, own_mono t1 t2 _ _ _ c fun a ha o h => fr a o h (nF ha)⟩
    | al j p =>
      obtain ⟨a, v, w, d, d', b1, b2, b3, b4⟩ := E
      obtain ⟨v2, c1, c2⟩ := s.ent j _ b2
      rw [b3] at c1
      cases c1
      exact ⟨a, v, w, d, d', b1, b2, b3, at_frame b4 c2 t2 fun x hx o h => fr x o h (nF hx)⟩
    | vl v => exact E
    | sh ds =>
      obtain ⟨a, vs, b1, b2, b3, b4⟩ := E
      exact ⟨a, vs, b1, b2, fr a _ b3 (nF (k := i) (by rw [b2]; exact List.mem_singleton.mpr rfl)), dps_sub hh _ _ b4⟩
    | ob u =>
      obtain ⟨a, b1, b2, b3, b4⟩ := E
      exact ⟨a, b1, b2, fr a _ b3 (nF (k := i) (by rw [b2]; exact List.mem_singleton.mpr rfl)), b4⟩
    | rt _ _ => exact E
    | im f =>
      obtain ⟨n, a, x1, x2⟩ := E
      exact ⟨n, a, x1, x2.trans hh⟩
    | io _ _ _ => exact E
end
end DL
namespace DL
open PySem PySem.Spec PyProof.Rows L2
section
variable {K : PySem.W.Frag} {B : Hp} {σ : L2.St} {H : Hp}
theorem StF.wcongr {W W' : Addr → Prop} {ρ : DEnv} {F : Nat → List Addr} (s : StF K B W ρ σ H F) (h : ∀ a, W a ↔ W' a) : StF K B W' ρ σ H F := by
  have e : W = W' := funext fun a => propext (h a)
  rw [← e]
  exact s
theorem st_putB {W : Addr → Prop} : ∀ (as : List (DE × Option Nat)) (os : List OE) {ρ : DEnv} {F : Nat → List Addr} (G : Nat → List Addr), StF K B (fun a => W a ∨ ∃ i, i < as.length ∧ a ∈ G i) ρ σ H F → (∀ i, (G i).Nodup) → (∀ i j a, a ∈ G i → a ∈ G j → i = j) →
    (∀ i a, a ∈ G i → B a = none ∧ ∀ k, a ∉ F k) → (slotsOf as).Nodup → os.length = as.length → (∀ i e k o, as[i]? = some (e, some k) → os[i]? = some o → ρ[k]? = some .un ∧ ∀ U ρ', Ent K U ρ' σ H σ[k]? (G i) (outE e o)) → (∀ i e, as[i]? = some (e, none) → G i = []) → ∃ F', StF K B W (putB ρ as os) σ H F'
  | [], [], ρ, F, G, s, _, _, _, _, _, _, _ => ⟨F, s.wcongr fun a => ⟨fun h => h.elim id fun ⟨i, h, _⟩ => absurd h (Nat.not_lt_zero _), .inl⟩⟩
  | (e, some k) :: as, o :: os, ρ, F, G, s, nd, dj, fr, sn, hl, he, hz => by
    have sn' : (k :: slotsOf as).Nodup := sn
    have sn' := List.nodup_cons.mp sn'
    obtain ⟨h1, h2⟩ := he 0 e k o rfl rfl
    have s0 : StF K B (fun a => (W a ∨ ∃ i, i < as.length ∧ a ∈ G (i + 1)) ∨ a ∈ G 0) ρ σ H F := s.wcongr fun a => ⟨fun h => by
      rcases h with h | ⟨i, h, m⟩
      · exact .inl (.inl h)
      · cases i with
        | zero => exact .inr m
        | succ i => exact .inl (.inr ⟨i, by rw [List.length_cons] at h; omega, m⟩), fun h => by
      rcases h with (h | ⟨i, h, m⟩) | m
      · exact .inl h
      · exact .inr ⟨i + 1, by rw [List.length_cons]; omega, m⟩
      · exact .inr ⟨0, by rw [List.length_cons]; omega, m⟩⟩
    have s1 := st_adoptE s0 h1 h2 (nd 0) fun x hx => fr 0 x hx
    refine st_putB as os (fun i => G (i + 1)) s1 (fun i => nd _) (fun i j a m1 m2 => by have := dj _ _ a m1 m2; omega) (fun i a m => ⟨(fr _ a m).1, fun k' hk' => ?_⟩) sn'.2 (Nat.succ.inj hl) (fun i e' k' o' a1 a2 => ?_) (fun i e' a1 => hz (i + 1) e' a1)
    · by_cases hkk : k' = k
      · rw [hkk, setF_same] at hk'
        have := dj _ _ a m hk'
        omega
      · rw [setF_ne hkk] at hk'
        exact (fr _ a m).2 k' hk'
    · obtain ⟨g1, g2⟩ := he (i + 1) e' k' o' a1 a2
      refine ⟨?_, g2⟩
      have hkk : k ≠ k' := fun z => sn'.1 (slotsOf_mem.mpr ⟨i, e', by rw [z]; exact a1⟩)
      rw [List.getElem?_set_ne hkk]
      exact g1
  | (e, none) :: as, o :: os, ρ, F, G, s, nd, dj, fr, sn, hl, he, hz => by
    have g0 := hz 0 e rfl
    have s0 : StF K B (fun a => W a ∨ ∃ i, i < as.length ∧ a ∈ G (i + 1)) ρ σ H F := s.wcongr fun a => ⟨fun h => by
      rcases h with h | ⟨i, h, m⟩
      · exact .inl h
      · cases i with
        | zero => rw [g0] at m; cases m
        | succ i => exact .inr ⟨i, by rw [List.length_cons] at h; omega, m⟩, fun h => by
      rcases h with h | ⟨i, h, m⟩
      · exact .inl h
      · exact .inr ⟨i + 1, by rw [List.length_cons]; omega, m⟩⟩
    exact st_putB as os (fun i => G (i + 1)) s0 (fun i => nd _) (fun i j a m1 m2 => by have := dj _ _ a m1 m2; omega) (fun i a m => fr _ a m) sn (Nat.succ.inj hl) (fun i e' k' o' a1 a2 => he (i + 1) e' k' o' a1 a2) (fun i e' a1 => hz (i + 1) e' a1)
  | [], _ :: _, _, _, _, _, _, _, _, _, hl, _, _ => by cases hl
  | _ :: _, [], _, _, _, _, _, _, _, _, hl, _, _ => by cases hl
end
structure CallI (X : Cx) (x : Str) (Pre : List DE → Prop) (Post : List DE → PyData → List OE → Prop) : Prop where
  ex : ∃ (CX : CXT) (k : Nat) (f : Addr) (fd : FuncData) (ps : List Str), FnOk X.prog X.w X.K X.mg X.base CX k f fd ps (spI X.K Pre Post) ∧ Room k X.A ∧ X.mg x = some (.ref f) ∧ PySem.W.keepIn X.K (.ref f) = true ∧
    Binds X.K fd ps [] ∧ ∀ (Y : Cx), Y.prog = X.prog → Y.w = X.w → Passes CX Y E0
theorem callI {X : Cx} {x : Str} {Pre : List DE → Prop} {Post : List DE → PyData → List OE → Prop} {k k' : Nat} (G : FnI X.prog X.w X.K X.mg X.base x k Pre Post) (hr : Room k' X.A) (hk : k ≤ k' := by decide) : CallI X x Pre Post := by
  obtain ⟨f, fd, ps, G, hm, hp, hb⟩ := G
  exact ⟨CX0, k, f, fd, ps, G, hr.mono hk, hm, hp, hb, fun Y _ _ => pass0⟩
section
variable {X : Cx} {ρ : DEnv} {D : DEnds} {a b c e : Expr} {es rest : List Expr} {pos p : Pos} {x : Str}
theorem rs_callI {Pre : List DE → Prop} {Post : List DE → PyData → List OE → Prop} {Q : PyData → DEnv → Prop} (C : CallI X x Pre Post) (h : RAI X (a :: es) ρ fun as => Pre (as.map (·.1)) ∧ (slotsOf as).Nodup ∧ ∀ r os, Post (as.map (·.1)) r os → okO (as.map (·.1)) os = true → lf r = true → Q r (backE ρ as os)) (hg : Gl X x := by rfl)
    (hdb : (x == ("__debug__" : Str)) = false := by decide) (he : starEach (a :: es) X.env = (false, eval a X.env) :: starEach es X.env := by rfl) (hpl : (backTo pos (starEach es X.env)).any (·.1) = false := by rfl) : RS X (.Call (.Name x p) (a :: es) [] pos) ρ Q := fun B W σ H F hW s => by
  obtain ⟨CX, k, f, fd, ps, G, hr, hm, hk, hb, hx⟩ := C.ex
  refine we_of (pe_call G hr hg hm hk hb .nil (hx X rfl rfl) pa_w hdb he hpl) (wa_mono (h _ σ H (s.mut hW) s.env) fun vs H1 ⟨e1, as, r, hp, nd, q⟩ => ?_)
  rw [List.append_nil]
  have s1 := s.mono e1
  have A := argF_in s1 r nd
  show spI X.K Pre Post vs H1 _ E0
  refine ⟨as.map (·.1), argFoot F as, A, hp, fun rr v' os G H' hpost ok hl e2 rp A' hG => ?_⟩
  refine ⟨rr, backE ρ as os, hl, rp, ?_, q rr os hpost ok hl⟩
  have sA := st_dropL (ks := slotsOf as) s1
  have inM : ∀ {a j}, a ∈ argFoot F as j → ∃ k ∈ slotsOf as, a ∈ F k := fun {a j} m => by
    obtain ⟨e, k, h1, h2⟩ := argFoot_mem m
    exact ⟨k, slotsOf_mem.mpr ⟨j, e, h1⟩, h2⟩
  have notD : ∀ {a k}, k ∈ slotsOf as → a ∈ F k → ∀ k', a ∉ dropF F (slotsOf as) k' := fun {a k} hk m k' m' => by
    by_cases h : k' ∈ slotsOf as
    · rw [dropF_in h] at m'
      cases m'
    · rw [dropF_ne h] at m'
      exact h (s.dj k k' a m m' ▸ hk)
  have gIn : ∀ {i a}, a ∈ G i → (∃ k ∈ slotsOf as, a ∈ F k) ∨ H1 a = none := fun {i a} m => by
    rcases hG i a m with ⟨j, z⟩ | z
    · exact .inl (inM z)
    · exact .inr z
  have sB := st_frameI (M' := fun a => ∃ i, i < as.length ∧ a ∈ G i) sA (fun a ⟨k, hk, m⟩ => ⟨s.fresh k a m, notD hk m, s1.lstAt m⟩) (fun a o h1 n => e2 a o (hide_some.mpr ⟨fun ⟨j, z⟩ => n (inM z), h1⟩)) (fun a ⟨i, _, m⟩ => gIn m)
  have hol : os.length = as.length := by
    have := okO_len ok
    rw [List.length_map] at this
    exact this
  have getv : ∀ {i e o}, as[i]? = some (e, o) → ∃ v, vs[i]? = some v := fun {i e o} h => ⟨_, List.getElem?_eq_getElem (by rw [argsS_len r]; exact (List.getElem?_eq_some_iff.mp h).1)⟩
  refine st_putB as os G sB A'.nd A'.dj (fun i a m => ?_) nd hol (fun i e k o h1 h2 => ?_) (fun i e h1 => ?_)
  · rcases gIn m with ⟨k, hk, z⟩ | z
    · exact ⟨s.fresh k a z, notD hk z⟩
    · refine ⟨s1.same.free z, fun k m' => ?_⟩
      have m2 : a ∈ F k := by
        by_cases h : k ∈ slotsOf as
        · rw [dropF_in h] at m'
          cases m'
        · rw [dropF_ne h] at m'
          exact m'
      obtain ⟨u, hu, _⟩ := s1.lstAt m2
      rw [z] at hu
      cases hu
  · obtain ⟨v, hv⟩ := getv h1
    rcases argsS_get r h1 hv with ⟨z, _⟩ | ⟨k', z, g1, g2, g3⟩
    · cases z
    · cases z
      refine ⟨by rw [dropL_get, g1]; show some (if k ∈ slotsOf as then _ else _) = _; rw [if_pos (slotsOf_mem.mpr ⟨i, e, h1⟩)], fun U ρ' => ?_⟩
      obtain ⟨e0, x1, x2, _⟩ := okO_get ok i o h2
      rw [List.getElem?_map, h1] at x1
      cases x1
      have q := A'.ent i _ v x2 hv
      rw [g3]
      rcases own1_of g2 with ⟨d, rfl⟩ | ⟨u, rfl⟩ <;> cases o with
        | n => exact q
        | d x => exact ⟨v, rfl, q⟩
        | o u =>
          obtain ⟨a, y1, y2, y3, y4⟩ := q
          subst y1
          exact ⟨a, rfl, y2, y3, y4⟩
  · obtain ⟨v, hv⟩ := getv h1
    rcases argsS_get r h1 hv with ⟨_, d, rfl, _⟩ | ⟨k', z, _⟩
    · obtain ⟨o, ho⟩ : ∃ o, os[i]? = some o := ⟨_, List.getElem?_eq_getElem (by rw [hol]; exact (List.getElem?_eq_some_iff.mp h1).1)⟩
      obtain ⟨e0, x1, x2, x3⟩ := okO_get ok i o ho
      rw [List.getElem?_map, h1] at x1
      cases x1
      rcases x3 with rfl | ⟨_, z⟩ | ⟨_, z⟩
      · exact (A'.ent i _ v x2 hv).1
      · cases z
      · cases z
    · cases z
end
end DL
namespace DL
open PySem PySem.Spec PyProof.Rows L2
/-! ### for the norm of states -/
theorem backE_eq {ρ : DEnv} {as : List (DE × Option Nat)} {os : List OE} : backE ρ as os = putB (dropL ρ (slotsOf as)) as os := rfl
theorem dropL_eq {ρ : DEnv} {ks : List Nat} : dropL ρ ks = ks.foldl (fun ρ k => ρ.set k .un) (ρ.map (kilL ks)) := rfl
theorem slotsOf_nil : slotsOf [] = [] := rfl
theorem slotsOf_some {e : DE} {k : Nat} {as : List (DE × Option Nat)} : slotsOf ((e, some k) :: as) = k :: slotsOf as := rfl
theorem slotsOf_none {e : DE} {as : List (DE × Option Nat)} : slotsOf ((e, none) :: as) = slotsOf as := rfl
theorem putB_nil {ρ : DEnv} {os : List OE} : putB ρ [] os = ρ := rfl
theorem putB_some {ρ : DEnv} {e : DE} {k : Nat} {as : List (DE × Option Nat)} {o : OE} {os : List OE} : putB ρ ((e, some k) :: as) (o :: os) = putB (ρ.set k (outE e o)) as os := rfl
theorem putB_none {ρ : DEnv} {e : DE} {as : List (DE × Option Nat)} {o : OE} {os : List OE} : putB ρ ((e, none) :: as) (o :: os) = putB ρ as os := rfl
theorem dfold_cons {k : Nat} {ks : List Nat} {ρ : DEnv} : (k :: ks).foldl (fun ρ k => ρ.set k .un) ρ = ks.foldl (fun ρ k => ρ.set k .un) (ρ.set k .un) := rfl
theorem dfold_nil {ρ : DEnv} : ([] : List Nat).foldl (fun ρ k => ρ.set k .un) ρ = ρ := rfl
theorem outE_d {e : DE} {x : PyData} : outE e (.d x) = .ow x := rfl
theorem outE_o {e : DE} {u : HO} : outE e (.o u) = .ob u := rfl
theorem outE_nw {d : PyData} : outE (.ow d) .n = .un := rfl
theorem outE_nb {u : HO} : outE (.ob u) .n = .un := rfl
theorem kilL_un {ks : List Nat} : kilL ks .un = .un := rfl
theorem kilL_fz {ks : List Nat} {d : PyData} : kilL ks (.fz d) = .fz d := rfl
theorem kilL_ow {ks : List Nat} {d : PyData} : kilL ks (.ow d) = .ow d := rfl
theorem kilL_vl {ks : List Nat} {d : V} : kilL ks (.vl d) = .vl d := rfl
theorem kilL_sh {ks : List Nat} {d : List PyData} : kilL ks (.sh d) = .sh d := rfl
theorem kilL_ob {ks : List Nat} {u : HO} : kilL ks (.ob u) = .ob u := rfl
theorem kilL_rt {ks : List Nat} {j : Nat} {a : Addr} : kilL ks (.rt j a) = .rt j a := rfl
theorem kilL_im {ks : List Nat} {f : Option (Option V) → Option Hp} : kilL ks (.im f) = .im f := rfl
theorem kilL_al {ks : List Nat} {j : Nat} {p : List Nat} : kilL ks (.al j p) = if ks.contains j then .un else .al j p := rfl
theorem ghosts_nil {as : Nat → Addr} {i : Nat} : ghosts as i [] = [] := rfl
theorem ghosts_fz {as : Nat → Addr} {i : Nat} {d : PyData} {es : List DE} : ghosts as i (.fz d :: es) = .un :: ghosts as (i + 1) es := rfl
theorem ghosts_ow {as : Nat → Addr} {i : Nat} {d : PyData} {es : List DE} : ghosts as i (.ow d :: es) = .rt i (as i) :: ghosts as (i + 1) es := rfl
theorem ghosts_ob {as : Nat → Addr} {i : Nat} {u : HO} {es : List DE} : ghosts as i (.ob u :: es) = .rt i (as i) :: ghosts as (i + 1) es := rfl
end DL
namespace DL
open PySem PySem.Spec PyProof.Rows L2
section
variable {K : PySem.W.Frag} {B : Hp} {W : Addr → Prop} {ρ : DEnv} {σ : L2.St} {H : Hp} {F : Nat → List Addr}
/-- the list at a, a part of what slot j owns, is lent to a call that changes it -/
theorem st_modCall {j : Nat} {p : List Nat} {w : V} {d : PyData} {a : Addr} {ds : List PyData} (s : StF K B W ρ σ H F) (hj : ρ[j]? = some (.ow d)) (hσ : σ[j]? = some (some w)) (hat : AtV H w d p (.ref a) (.list ds)) :
    ∃ S0, OwnR K H (.ref a) (.list ds) S0 ∧ S0.Nodup ∧ (∀ x ∈ S0, x ∈ F j) ∧ ∀ (H2 : Hp) (ds' : List PyData) (S' : List Addr), Same (Hide H fun x => x ∈ S0) H2 → OwnR K H2 (.ref a) (.list ds') S' → S'.Nodup → (∀ x ∈ S', x ∈ S0 ∨ H x = none) → StD K B W (modE ρ j p (.list ds')) σ H2 := by
  obtain ⟨w', hw', how⟩ := s.ent j _ hj
  rw [hσ] at hw'
  cases hw'
  obtain ⟨vs, Sa, R, ha, hO, hperm, put⟩ := own_zip hat rfl rfl how
  have nF := s.nd j
  have nP : (a :: (Sa ++ R)).Nodup := hperm.nodup_iff.mp nF
  have nSaR := (List.nodup_cons.mp nP).2
  have aNot := (List.nodup_cons.mp nP).1
  have inF : ∀ x, x ∈ a :: (Sa ++ R) → x ∈ F j := fun x m => hperm.mem_iff.mpr m
  have inF0 : ∀ x ∈ a :: Sa, x ∈ F j := fun x m => inF x (by
    rcases List.mem_cons.mp m with z | z
    · rw [z]; exact List.mem_cons_self
    · exact List.mem_cons_of_mem _ (List.mem_append_left _ z))
  have n0 : (a :: Sa).Nodup := List.nodup_cons.mpr ⟨fun m => aNot (List.mem_append_left _ m), (List.nodup_append.mp nSaR).1⟩
  refine ⟨a :: Sa, .lst ha hO, n0, inF0, fun H2 ds' S' fr hO' hn' hsub => ?_⟩
  obtain ⟨b, vs', Sb, eb, ha', hOb, rfl⟩ := own_list hO'
  cases eb
  have fr' : ∀ x o, H x = some o → x ∉ a :: Sa → H2 x = some o := fun x o e n => fr x o (hide_some.mpr ⟨n, e⟩)
  obtain ⟨t, t2⟩ := frame_tups (fun x hx => s.lstAt (inF0 x hx)) fr'
  have notR : ∀ x ∈ R, x ∉ a :: Sa := fun x m z => by
    rcases List.mem_cons.mp z with z | z
    · rw [z] at m
      exact aNot (List.mem_append_right _ m)
    · exact (List.nodup_append.mp nSaR).2.2 x z x m rfl
  obtain ⟨S2, hp2, how2, hat2⟩ := put H2 vs' ds' Sb t t2 (fun b m o e => fr' b o e (notR b m)) ha' hOb
  have newNot : ∀ x, H x = none → ∀ k, x ∉ F k := fun x hx k m => by
    obtain ⟨xs, e, _⟩ := s.lstAt m
    rw [hx] at e
    cases e
  have memS2 : ∀ x, x ∈ S2 → x ∈ F j ∨ H x = none := fun x m => by
    have m' : x ∈ (a :: Sb) ++ R := hp2.mem_iff.mp m
    rcases List.mem_append.mp m' with z | z
    · rcases hsub x z with y | y
      · exact .inl (inF0 x y)
      · exact .inr y
    · exact .inl (inF x (List.mem_cons_of_mem _ (List.mem_append_right _ z)))
  have nS2 : S2.Nodup := by
    refine hp2.nodup_iff.mpr ?_
    show ((a :: Sb) ++ R).Nodup
    refine List.nodup_append.mpr ⟨hn', (List.nodup_append.mp nSaR).2.1, fun x hx y hy z => ?_⟩
    subst z
    rcases hsub x hx with q | q
    · exact notR x hy q
    · exact newNot x q j (inF x (List.mem_cons_of_mem _ (List.mem_append_right _ hy)))
  have jl : j < ρ.length := (List.getElem?_eq_some_iff.mp hj).1
  let F2 := setF F j S2
  have e5 : modE ρ j p (.list ds') = (ρ.map (kilP j p)).set j (.ow (modAt d p (.list ds'))) := by
    unfold modE
    rw [hj]
  have gj : (modE ρ j p (.list ds'))[j]? = some (.ow (modAt d p (.list ds'))) := by
    rw [e5, List.getElem?_set_self (by rw [List.length_map]; exact jl)]
  have gk : ∀ k, k ≠ j → (modE ρ j p (.list ds'))[k]? = (ρ[k]?).map (kilP j p) := fun k n => by
    rw [e5, List.getElem?_set_ne (Ne.symm n), List.getElem?_map]
  have hideOk : Same (Hide H (UF W F)) (Hide H2 (UF W F2)) := fun x o e => by
    obtain ⟨n, e⟩ := hide_some.mp e
    have n1 : x ∉ a :: Sa := fun z => n (.inr ⟨j, inF0 x z⟩)
    refine hide_some.mpr ⟨fun hu => ?_, fr' x o e n1⟩
    rcases uf_set hu with z | z
    · exact n z
    · rcases memS2 x z with y | y
      · exact n (.inr ⟨j, y⟩)
      · rw [y] at e
        cases e
  have keepF : ∀ k, k ≠ j → ∀ b ∈ F k, ∀ o, H b = some o → H2 b = some o := fun k n b m o e => fr' b o e fun z => n (s.dj k j b m (inF0 b z))
  refine ⟨F2, fun b o e => ?_, by rw [e5, List.length_set, List.length_map]; exact s.len, fun k => ?_, fun k l x h1 h2 => ?_, fun k x h1 => ?_, fun k o ho => ?_, fun k ho => ?_⟩
  · refine fr' b o (s.same b o e) fun z => ?_
    rw [s.fresh j b (inF0 b z)] at e
    cases e
  · by_cases hk : k = j
    · show (setF F j S2 k).Nodup
      rw [hk, setF_same]; exact nS2
    · show (setF F j S2 k).Nodup
      rw [setF_ne hk]; exact s.nd k
  · have sep : ∀ k, k ≠ j → x ∈ F k → x ∈ S2 → False := fun k n m m2 => by
      rcases memS2 x m2 with y | y
      · exact n (s.dj k j x m y)
      · exact newNot x y k m
    have h1' : x ∈ setF F j S2 k := h1
    have h2' : x ∈ setF F j S2 l := h2
    by_cases hk : k = j
    · rw [hk, setF_same] at h1'
      by_cases hl : l = j
      · rw [hk, hl]
      · rw [setF_ne hl] at h2'
        exact (sep l hl h2' h1').elim
    · rw [setF_ne hk] at h1'
      by_cases hl : l = j
      · rw [hl, setF_same] at h2'
        exact (sep k hk h1' h2').elim
      · rw [setF_ne hl] at h2'
        exact s.dj k l x h1' h2'
  · have h1' : x ∈ setF F j S2 k := h1
    by_cases hk : k = j
    · rw [hk, setF_same] at h1'
      rcases memS2 x h1' with y | y
      · exact s.fresh j x y
      · exact s.same.free y
    · rw [setF_ne hk] at h1'
      exact s.fresh k x h1'
  · by_cases hk : k = j
    · subst hk
      rw [gj] at ho
      cases ho
      show Ent K _ _ σ H2 σ[k]? (setF F k S2 k) _
      rw [setF_same, hσ]
      exact ⟨w, rfl, how2⟩
    · rw [gk k hk] at ho
      cases hr : ρ[k]? with
      | none => rw [hr] at ho; cases ho
      | some u =>
        rw [hr] at ho
        have ho' : kilP j p u = o := Option.some.inj ho
        subst ho'
        show Ent K _ _ σ H2 σ[k]? (setF F j S2 k) _
        rw [setF_ne hk]
        have q0 := s.ent k u hr
        cases u with
        | un => exact q0
        | fz d0 =>
          obtain ⟨x1, v, x2, x3⟩ := q0
          exact ⟨x1, v, x2, dp_sub hideOk _ _ x3⟩
        | ow d0 =>
          obtain ⟨v, x1, x2⟩ := q0
          exact ⟨v, x1, own_mono t t2 _ _ _ x2 (keepF k hk)⟩
        | al k2 q =>
          obtain ⟨x1, v, w2, d2, d2', x2, x3, x4, x5⟩ := q0
          show Ent K _ _ σ H2 σ[k]? (F k) (if k2 = j then (if p.length < q.length then .un else .al k2 q) else .al k2 q)
          by_cases h2 : k2 = j
          · rw [if_pos h2]
            by_cases h3 : p.length < q.length
            · rw [if_pos h3]; exact x1
            · rw [if_neg h3]
              subst h2
              rw [hj] at x3
              cases x3
              rw [hσ] at x4
              cases x4
              obtain ⟨c', hc'⟩ := at_mod hat (OwnR.lst ha hO) t2 rfl rfl how nF (fun x hx hn o e => fr' x o e hn) hat2 (Nat.le_of_not_lt h3) x5
              exact ⟨x1, v, w, _, c', x2, gj, hσ, hc'⟩
          · rw [if_neg h2]
            obtain ⟨v', y1, y2⟩ := s.ent k2 _ x3
            rw [x4] at y1
            cases y1
            have gk2 : (modE ρ j p (.list ds'))[k2]? = some (.ow d2) := by
              rw [gk k2 h2, x3]
              rfl
            exact ⟨x1, v, w2, d2, d2', x2, gk2, x4, at_frame x5 y2 t2 (keepF k2 h2)⟩
        | vl v => exact q0
        | sh ds =>
          obtain ⟨b, ws, x1, x2, x3, x4⟩ := q0
          exact ⟨b, ws, x1, x2, keepF k hk b (by rw [x2]; simp) _ x3, dps_sub hideOk _ _ x4⟩
        | ob u =>
          obtain ⟨b, x1, x2, x3, x4⟩ := q0
          exact ⟨b, x1, x2, keepF k hk b (by rw [x2]; simp) _ x3, x4⟩
        | rt _ _ => exact q0
        | im f =>
          obtain ⟨n, b, x1, x2⟩ := q0
          exact ⟨n, b, x1, x2.trans hideOk⟩
        | io _ _ _ => exact q0
  · have hk : k ≠ j := fun z => by
      rw [z, gj] at ho
      cases ho
    show setF F j S2 k = []
    rw [setF_ne hk]
    rw [gk k hk] at ho
    cases hr : ρ[k]? with
    | none => exact s.out k hr
    | some u => rw [hr] at ho; cases ho
end
section
variable {X : Cx} {ρ : DEnv} {D : DEnds} {a b c e : Expr} {es rest : List Expr} {pos p : Pos} {x : Str}
/-- the frozen arguments of a call whose first one is lent -/
theorem argF_al {K : PySem.W.Frag} {H : Hp} {v : V} {d : PyData} {S : List Addr} {vs : List V} {ds : List PyData} {U : Addr → Prop} (o : OwnR K H v d S) (nd : S.Nodup) (hU : ∀ x ∈ S, U x) (r : RpAll K (Hide H U) vs ds) : ArgF K H (v :: vs) (.ow d :: ds.map .fz) (fun i => if i = 0 then S else []) := by
  have hs : Same (Hide H U) (Hide H (U0 fun i => if i = 0 then S else [])) := fun y o h => by
    obtain ⟨n, h⟩ := hide_some.mp h
    refine hide_some.mpr ⟨fun ⟨i, m⟩ => ?_, h⟩
    have m : y ∈ if i = 0 then S else [] := m
    by_cases hi : i = 0
    · rw [if_pos hi] at m
      exact n (hU y m)
    · rw [if_neg hi] at m
      cases m
  refine ⟨by rw [List.length_cons, List.length_cons, List.length_map, dps_len r], fun i e v' he hv => ?_, fun i => ?_, fun i j y h1 h2 => ?_, fun i hi => ?_⟩
  · cases i with
    | zero =>
      cases he
      cases hv
      exact o
    | succ i =>
      rw [List.getElem?_cons_succ] at he hv
      rw [List.getElem?_map] at he
      cases hd : ds[i]? with
      | none => rw [hd] at he; cases he
      | some d0 =>
        rw [hd] at he
        cases he
        obtain ⟨v2, h2, r2⟩ := dps_get (dps_sub hs _ _ r) hd
        rw [hv] at h2
        cases h2
        exact ⟨rfl, r2⟩
  · show (if i = 0 then S else []).Nodup
    split
    · exact nd
    · exact List.nodup_nil
  · have h1 : y ∈ if i = 0 then S else [] := h1
    have h2 : y ∈ if j = 0 then S else [] := h2
    by_cases hi : i = 0
    · by_cases hj : j = 0
      · rw [hi, hj]
      · rw [if_neg hj] at h2
        cases h2
    · rw [if_neg hi] at h1
      cases h1
  · rw [List.length_cons] at hi
    show (if i = 0 then S else []) = []
    rw [if_neg (by omega)]
/-- f(x, ..): x names a list that a slot owns a part of; the part comes back changed -/
theorem rs_callA (k : Nat) {y : Str} {py : Pos} {j : Nat} {q : List Nat} {ds : List PyData} {Pre : List DE → Prop} {Post : List DE → PyData → List OE → Prop} {Q : PyData → DEnv → Prop} (C : CallI X x Pre Post) (hk : ρ[k]? = some (.al j q)) (hd : dat ρ (.al j q) = some (.list ds))
    (h : RFA X es ρ fun bs => Pre (.ow (.list ds) :: bs.map .fz) ∧ ∀ r os, Post (.ow (.list ds) :: bs.map .fz) r os → okO (.ow (.list ds) :: bs.map .fz) os = true → lf r = true → ∃ ds', os.head? = some (.d (.list ds')) ∧ Q r (modE ρ j q (.list ds'))) (hg : Gl X x := by rfl) (hN : X.N[k]? = some y := by rfl)
    (hv : Vis X.env.scope y := by first | exact Or.inl rfl | exact Or.inr (Or.inl rfl) | exact Or.inr (Or.inr rfl)) (hdd : (y == ("__debug__" : Str)) = false := by decide) (hcd : (y == ("__classdict__" : Str)) = false := by decide)
    (hdb : (x == ("__debug__" : Str)) = false := by decide) (he : starEach (.Name y py :: es) X.env = (false, eval (.Name y py) X.env) :: starEach es X.env := by rfl) (hpl : (backTo pos (starEach es X.env)).any (·.1) = false := by rfl) : RS X (.Call (.Name x p) (.Name y py :: es) [] pos) ρ Q := fun B W σ H F hW s => by
  obtain ⟨CX, kk, f, fd, ps, G, hr, hm, hkp, hb, hx⟩ := C.ex
  obtain ⟨nF, v, w, d, d', e1, e2, e3, e4⟩ := s.ent k _ hk
  refine we_of (pe_call G hr hg hm hkp hb .nil (hx X rfl rfl) (pa_cons (pe_var hN hv hdd hcd) pa_w he) hdb rfl hpl) ⟨v, e1, wa_mono (h _ σ H (s.mut hW) s.env) fun vs H1 ⟨x1, bs, r, hp, q⟩ => ?_⟩
  show spI X.K Pre Post ((v :: vs) ++ []) H1 _ E0
  rw [List.append_nil]
  have s1 := s.mono x1
  obtain ⟨a, w', d1, rfl, g1, g2, g3⟩ := st_place (X := X) s x1 (v := v) ⟨w, d, d', e2, e3, at_same x1 e4⟩ hd
  obtain ⟨S0, oS, nS, inS, put⟩ := st_modCall s1 g1 g2 g3
  have A := argF_al oS nS (fun y hy => Or.inr ⟨j, inS y hy⟩ : ∀ y ∈ S0, UF W F y) r
  show spI X.K Pre Post (.ref a :: vs) H1 _ E0
  refine ⟨.ow (.list ds) :: bs.map .fz, _, A, hp, fun rr v' os G H' hpost ok hl f2 rp A' hG => ?_⟩
  obtain ⟨ds', hh, hq⟩ := q rr os hpost ok hl
  refine ⟨rr, _, hl, rp, ?_, hq⟩
  cases os with
  | nil => cases hh
  | cons o os =>
    cases hh
    have o2 : OwnR X.K H' (.ref a) (.list ds') (G 0) := A'.ent 0 _ _ rfl rfl
    refine put H' ds' (G 0) (fun y u hy => ?_) o2 (A'.nd 0) fun y hy => ?_
    · obtain ⟨n, hy⟩ := hide_some.mp hy
      refine f2 y u (hide_some.mpr ⟨fun ⟨i, m⟩ => ?_, hy⟩)
      by_cases hi : i = 0
      · have m : y ∈ if i = 0 then S0 else [] := m
        rw [if_pos hi] at m
        exact n m
      · have m : y ∈ if i = 0 then S0 else [] := m
        rw [if_neg hi] at m
        cases m
    · rcases hG 0 y hy with ⟨i, m⟩ | z
      · by_cases hi : i = 0
        · have m : y ∈ if i = 0 then S0 else [] := m
          rw [if_pos hi] at m
          exact .inl m
        · have m : y ∈ if i = 0 then S0 else [] := m
          rw [if_neg hi] at m
          cases m
      · exact .inr z
end
end DL
namespace DL
open PySem PySem.Spec PyProof.Rows L2
/-! ### a caught exception is tracked -/
def ExE (C : Addr) (dd : Option Addr) (a : Addr) : HO := .ext fun h => ∃ oe vs, h.get? a = some oe ∧ Zc (.ref C) dd oe ∧ oe.data = .fields vs
theorem exE_ok {P : Program} {w : World} {H : Hp} {h : Heap} {a C : Addr} {dd : Option Addr} {oe : Obj} {vs : Array Value} (e : h.get? a = some oe) (z : Zc (.ref C) dd oe) (d : oe.data = .fields vs) : ObjOk P w H h a (ExE C dd a) :=
  ⟨⟨oe, vs, e, z, d⟩, ⟨oe, e⟩, fun h1 h2 ⟨oe, vs, e, z, d⟩ k => ⟨oe, vs, k _ e, z, d⟩⟩
def exH (C : Addr) (dd : Option Addr) (fl : List (Str × V)) (a : Addr) : Hp := fun b => if b = a then some (ExE C dd a) else if dd = some b then some (.xd fl) else none
def exF (C : Addr) (dd : Option Addr) (fl : List (Str × V)) : Option (Option V) → Option Hp
  | some (some (.ref a)) => if dd = some a then none else some (exH C dd fl a)
  | _ => none
theorem exF_val {C : Addr} {dd : Option Addr} {fl : List (Str × V)} {o : Option (Option V)} {g : Hp} (h : exF C dd fl o = some g) : ∃ a, o = some (some (.ref a)) ∧ g = exH C dd fl a ∧ dd ≠ some a := by
  unfold exF at h
  split at h
  · rename_i a
    by_cases hd : dd = some a
    · rw [if_pos hd] at h; cases h
    · rw [if_neg hd] at h
      cases h
      exact ⟨a, rfl, rfl, hd⟩
  · cases h
theorem exF_ref {C : Addr} {dd : Option Addr} {fl : List (Str × V)} {a : Addr} (h : dd ≠ some a) : exF C dd fl (some (some (.ref a))) = some (exH C dd fl a) := if_neg h
section
variable {X : Cx} {pins : List (Addr × Obj)} {σ : L2.St} {H : Hp} {s : Shared}
/-- what stands in the heap and is not tracked yet is tracked -/
theorem inv_layE {a C : Addr} {dd : Option Addr} {oe : Obj} {vs : Array Value} (I : Inv X pins σ H s) (e : s.heap.get? a = some oe) (z : Zc (.ref C) dd oe) (d : oe.data = .fields vs) (na : H a = none) (n0 : X.s_0.heap.get? a = none) (nL : a ≠ X.env.locals)
    (np : ∀ p ∈ X.pn ++ pins, p.1 ≠ a) : Inv X pins σ (upd H a (ExE C dd a)) s := by
  have up : ∀ {b u}, H b = some u → upd H a (ExE C dd a) b = some u := fun {b u} h => by rw [upd_ne (ne_of_none h na)]; exact h
  have nn : ∀ {b}, b ≠ a → H b = none → upd H a (ExE C dd a) b = none := fun {b} n h => by rw [upd_ne n]; exact h
  have hb := I.base
  refine ⟨I.ok, I.os, I.bare, ⟨hb.keep, hb.slot, fun b o q n hx => nn (fun t => by rw [t, n0] at q; cases q) (hb.free b o q n hx), hb.there, fun b xs q => up (hb.tups b xs q), fun b o u q => up (hb.frzs b o u q), fun b ps q => ?_⟩, I.loc, I.cell, nn (Ne.symm nL) I.free, fun x c q => ?_, fun p hp => ?_, fun b u q => ?_, I.len⟩
  · obtain ⟨more, q⟩ := hb.tbls b ps q
    exact ⟨more, up q⟩
  · refine nn (fun t => ?_) (I.freeC x c q)
    obtain ⟨v, o, ho, hd⟩ := I.cell x c q
    rw [t, e] at ho
    cases ho
    rw [d] at hd
    cases hd
  · obtain ⟨p1, p2, p3, p4, p5⟩ := I.pin p hp
    exact ⟨p1, nn (np p hp) p2, p3, p4, p5⟩
  · by_cases hba : b = a
    · subst hba
      rw [upd_same] at q
      cases q
      exact exE_ok e z d
    · rw [upd_ne hba] at q
      exact (I.hok b u q).stay (fun _ _ _ t => t) (fun c t => up t) fun c xs t => up t
theorem unsuiteE {a : Addr} {pn' : List (Addr × Obj)} (I : Inv (X.suite a (X.pn ++ pins)) pn' σ H s) (ok : X.Ok) : Inv X pins σ H s :=
  ⟨ok, I.os, I.bare, I.base, I.loc, I.cell, I.free, I.freeC, fun p hp => I.pin p (List.mem_append_left _ hp), I.hok, I.len⟩
theorem insuiteE (I : Inv X pins σ H s) (a : Addr) : Inv (X.suite a (X.pn ++ pins)) [] σ H s :=
  ⟨I.ok.suite _ _, I.os, I.bare, I.base, I.loc, I.cell, I.free, I.freeC, fun p hp => I.pin p (by rw [List.append_nil] at hp; exact hp), I.hok, I.len⟩
end
/-- behind the suite the clause's name is gone -/
def Dg (D : Ends) (i : Nat) : Ends where
  nx := fun σ H => D.nx (σ.set i none) H
  rt := D.rt
  bk := fun σ H => D.bk (σ.set i none) H
  ct := fun σ H => D.ct (σ.set i none) H
section
variable {X : Cx} {x n : Str} {c : Value} {i : Nat} {body suite : List Stmt} {b₀ : Stmt} {np pos pos' : Pos} {Wx : WX} {D : Ends} {σ : L2.St} {H : Hp}
/-- try .. except C as n, all that is raised is of C; the exception stays tracked behind the suite -/
theorem ws_tryL (hs : X.stack = X.env :: X.outer) (hf : X.env.frame = some X.env.locals) (hex : X.ex = []) (hN : X.N.Nodup) (hi : X.N[i]? = some n) (hln : X.env.kindOf n = some .local) (hc : Names X x c)
    (hb : ∀ pn xe, Takes (X.tr pn xe) Wx → WB (X.tr pn xe) body D σ H)
    (hw : ∀ cls d σ' H', Wx cls d σ' H' → ∃ C, cls = .ref C ∧ PySem.W.exmOne X.K cls c = some true ∧ ∀ a pn, H' a = none → WB (X.suite a pn) (b₀ :: suite) (Dg D i) (σ'.set i (some (.ref a))) (upd H' a (ExE C d a))) :
    WS X (.Try body [.ExceptHandler (some (.Name x np)) (some n) (b₀ :: suite) pos'] [] [] pos) D σ H := fun pins s I => by
  have ok := I.ok
  have hfr : X.A.frames = some (X.env :: X.outer) := by rw [ok.frames, hs]
  refine wpAny_Try_except (wpAny_mono (hb (X.pn ++ pins) _ (fun u s' xx => ?caught) [] s (I.toTry _)) (fun f s1 hsp => ?through) fun _ _ q => q)
  case through =>
    cases f with
    | next =>
      obtain ⟨σ1, H1, J, q⟩ := hsp
      exact wpAny_execs_nil ⟨σ1, H1, J.ofTry ok, q⟩
    | ret u =>
      obtain ⟨v, σ1, H1, J, r, q⟩ := hsp
      exact ⟨v, σ1, H1, J.ofTry ok, r, q⟩
    | _ =>
      obtain ⟨σ1, H1, J, q⟩ := hsp
      exact ⟨σ1, H1, J.ofTry ok, q⟩
  case caught =>
    obtain ⟨a, G, sI, ps, σ1, H1, cls, d, rfl, JI, ground, up, sky, na, os, ag, wish⟩ := xx
    obtain ⟨C, rfl, hmatch, hsuite⟩ := hw _ _ _ _ wish
    have J := JI.ofTry ok
    have sky2 : Sky G (X.env :: X.outer) a (Zc (.ref C) d) X.env.locals s'.heap := by
      have q := sky
      rw [show (X.tr (X.pn ++ pins) _).stack = X.env :: X.outer from hs] at q
      exact q
    refine Sky.land Zc.steady hfr hf sky2 fun ha fa ua => ?_
    have Ja : Inv X pins σ1 H1 { s' with heap := ha } := J.landed ground fa.1 (up.trans ua) os ag
    obtain ⟨oa, va, xa, za, da⟩ := fa.there
    have noFrame : a ∉ frs (X.env :: X.outer) := fun m => by
      obtain ⟨_, o', y, hn⟩ := fa.2.2.1.mem m
      rw [xa] at y
      cases y
      exact hn _ da
    have nL : a ≠ X.env.locals := fun t => noFrame (List.mem_filterMap.mpr ⟨X.env, List.mem_cons_self, by rw [hf, t]⟩)
    have gnone : G.get? a = none := fa.2.1
    have inG : ∀ b o, sI.heap.get? b = some o → b ∉ frs (X.env :: X.outer) → G.get? b = some o := fun b o q m => ground b o q (by
      show b ∉ frs X.stack
      rw [hs]
      exact m)
    have n0 : X.s_0.heap.get? a = none := by
      cases q : X.s_0.heap.get? a with
      | none => rfl
      | some o =>
        obtain ⟨o', q'⟩ := J.base.there a o q (by rw [hex]; simp)
        rw [inG a o' q' noFrame] at gnone
        cases gnone
    have nopin : ∀ p ∈ X.pn ++ pins, p.1 ≠ a := fun p hp t => by
      obtain ⟨q, _⟩ := J.pin p hp
      rw [t] at q
      rw [inG a _ q noFrame] at gnone
      cases gnone
    have Ia := insuiteE Ja a
    refine wpAny_handleBy_cons (codeAny_handlers_test ?_) (by intro q; cases q)
    have LT : PySem.W.Looks (model X.prog X.w) ha (typeOf (.ref a)) (.ref C) := fun A Q E t k q => wpAny_typeOf_ref (k _ _ xa) (by rw [za.1]; exact q)
    have LM := PySem.W.exm_one (M := model X.prog X.w) Ja.kIn LT hmatch
    have named : ∀ {Q : Value → Shared → Prop} {E : Value → Shared → Prop}, Q c { s' with heap := ha } → wpAny (model X.prog X.w) (X.A.mark (some (.ref a))) (eval (.Name x np) X.env) Q E { s' with heap := ha } := fun {Q E} q => by
      obtain ⟨hg, hdbg, hm | ⟨hm, hv, hnn⟩⟩ := hc
      · exact ld_glob (X := X.suite a (X.pn ++ pins)) Ia hg hm q hdbg
      · exact ld_blt (X := X.suite a (X.pn ++ pins)) Ia hg hm hv q hnn hdbg
    refine named (LM.here ?_)
    refine codeAny_handlers_suite_as (HandSPX.lands_againZ fa fun hb' fb ub => ?_)
    have Jb : Inv X pins σ1 H1 { s' with heap := hb' } := J.landed ground fb.1 ((up.trans ua).trans ub) os ag
    obtain ⟨ob, vb, xb, zb, db⟩ := fb.there
    have Lb := insuiteE (inv_layE Jb xb zb db na n0 nL nopin) a
    refine store_ok (X := X.suite a (X.pn ++ pins)) (v := .ref a) Lb hN hi (.inl hln) rfl (fun s5 S5 => ?_) (.inr hln)
    refine wpAny_mono (hsuite a (X.pn ++ pins) na [] s5 S5) (fun f s6 hsp => ?_) (fun _ _ t => False.elim t)
    have done : ∀ {σ6 : L2.St} {H6 : Hp} {Q : Shared → Prop}, Inv (X.suite a (X.pn ++ pins)) [] σ6 H6 s6 → (∀ s7, Inv X pins (σ6.set i none) H6 s7 → Q s7) →
        wpAny (model X.prog X.w) X.A (do bindName X.env n .none; unbindBehindTheSuite X.env n pos') (fun _ s7 => Q s7) X.xe s6 := fun J6 k => gone_ok (unsuiteE J6 ok) hN hi hln k
    cases f with
    | ret u =>
      obtain ⟨v6, σ6, H6, J6, r6, q6⟩ := hsp
      exact done J6 fun s7 J7 => ⟨_, _, _, J7, r6, q6⟩
    | _ =>
      obtain ⟨σ6, H6, J6, q6⟩ := hsp
      exact done J6 fun s7 J7 => ⟨_, _, J7, q6⟩
end
end DL
namespace DL
open PySem PySem.Spec PyProof.Rows L2
/-! ### exceptions, by data: a class's name, perhaps a field that holds a whole number -/
abbrev XD := Str × Option (Str × Int)
abbrev XD.of (x : Str) : XD := (x, none)
abbrev XD.fld (x f : Str) (i : Int) : XD := (x, some (f, i))
def flV : Option (Str × Int) → List (Str × V)
  | none => []
  | some (f, i) => [(f, .int i)]
section
variable {K : PySem.W.Frag} {B : Hp} {W : Addr → Prop} {ρ : DEnv} {σ : L2.St} {H : Hp} {F : Nat → List Addr}
theorem st_exc (s : StF K B W ρ σ H F) (hW : MutU W B) {i : Nat} (hi : i < ρ.length) {a C : Addr} {dd : Option Addr} {fl : List (Str × V)} (na : H a = none) (hd : ∀ d, dd = some d → H d = some (.xd fl)) :
    StD K B W (setV ρ i (.im (exF C dd fl))) (σ.set i (some (.ref a))) (upd H a (ExE C dd a)) := by
  refine st_setIm s (same_new na) hi ⟨exH C dd fl a, exF_ref (fun z => by rw [hd a z] at na; cases na), fun b u h => ?_⟩
  have nU : ∀ {b}, ¬ Mut (H b) → ¬ UF W F b := fun n hu => n (s.mut hW _ hu)
  unfold exH at h
  by_cases hb : b = a
  · rw [if_pos hb] at h
    cases h
    rw [hb]
    exact hide_some.mpr ⟨nU (by rw [na]; exact fun z => z), upd_same⟩
  · rw [if_neg hb] at h
    by_cases hdd : dd = some b
    · rw [if_pos hdd] at h
      cases h
      have q := hd b hdd
      exact hide_some.mpr ⟨nU (by rw [q]; exact fun z => z), by rw [upd_ne hb]; exact q⟩
    · rw [if_neg hdd] at h
      cases h
theorem kil_al_ne {i j : Nat} {p : List Nat} {u : DE} (h : kil i u = .al j p) : j ≠ i := by
  cases u with
  | al j' p' =>
    have h' : (if j' = i then DE.un else .al j' p') = .al j p := h
    by_cases z : j' = i
    · rw [if_pos z] at h'; cases h'
    · rw [if_neg z] at h'; cases h'; exact z
  | rt j' a =>
    have h' : (if j' = i then DE.un else .rt j' a) = .al j p := h
    by_cases z : j' = i
    · rw [if_pos z] at h'; cases h'
    · rw [if_neg z] at h'; cases h'
  | _ => cases h
theorem kil_rt_ne {i j : Nat} {a : Addr} {u : DE} (h : kil i u = .rt j a) : j ≠ i := by
  cases u with
  | al j' p' =>
    have h' : (if j' = i then DE.un else .al j' p') = .rt j a := h
    by_cases z : j' = i
    · rw [if_pos z] at h'; cases h'
    · rw [if_neg z] at h'; cases h'
  | rt j' a' =>
    have h' : (if j' = i then DE.un else .rt j' a') = .rt j a := h
    by_cases z : j' = i
    · rw [if_pos z] at h'; cases h'
    · rw [if_neg z] at h'; cases h'; exact z
  | _ => cases h
theorem st_gone (s : StF K B W ρ σ H F) (i : Nat) : StD K B W (unV ρ i) (σ.set i none) H := by
  have t := st_drop (k := i) s
  refine ⟨_, t.same, by rw [List.length_set]; exact t.len, t.nd, t.dj, t.fresh, fun j e he => ?_, t.out⟩
  have q := t.ent j e he
  by_cases hj : j = i
  · subst hj
    have := unV_same he
    subst this
    exact q
  · have e0 : (σ.set i none)[j]? = σ[j]? := List.getElem?_set_ne (Ne.symm hj)
    have he2 := he
    rw [unV_ne (Ne.symm hj)] at he2
    rw [e0]
    cases e with
    | al j2 p =>
      have n : j2 ≠ i := by
        cases hr : ρ[j]? with
        | none => rw [hr] at he2; cases he2
        | some u => rw [hr] at he2; exact kil_al_ne (Option.some.inj he2)
      obtain ⟨x1, v, w, d, d', x2, x3, x4, x5⟩ := q
      exact ⟨x1, v, w, d, d', x2, x3, by rw [List.getElem?_set_ne (Ne.symm n)]; exact x4, x5⟩
    | rt j2 a =>
      have n : j2 ≠ i := by
        cases hr : ρ[j]? with
        | none => rw [hr] at he2; cases he2
        | some u => rw [hr] at he2; exact kil_rt_ne (Option.some.inj he2)
      exact ⟨q.1, by rw [List.getElem?_set_ne (Ne.symm n)]; exact q.2⟩
    | _ => exact q
end
/-- what is raised in Y is taken, where the state is as Φ tells -/
structure XTk (Y : Cx) (Ex : XD → Prop) (Φ : L2.St → Hp → Prop) : Prop where
  ex : ∃ Wx : WX, Takes Y Wx ∧ (∀ x C σ H, Ex (x, none) → Y.mg x = some (.ref C) → Φ σ H → Wx (.ref C) none σ H) ∧
    ∀ x f (i : Int) C d σ H H', Ex (x, some (f, i)) → Y.mg x = some (.ref C) → Φ σ H → Same H H' → H d = none → H' d = some (.xd [(f, .int i)]) → Wx (.ref C) (some d) σ H'
def spX (K : PySem.W.Frag) (mg : Str → Option Value) (Pre : List PyData → Prop) (Post : List PyData → PyData → Prop) (Ex : List PyData → XD → Prop) : Sp := fun vs H Q E => ∃ ds, RpAll K H vs ds ∧ Pre ds ∧ (∀ d v H' S, Post ds d → Same H H' → OwnR K H' v d S → S.Nodup → (∀ a ∈ S, H a = none) → Q v H') ∧
  (∀ x C H', Ex ds (x, none) → mg x = some (.ref C) → Same H H' → E (.ref C) none H') ∧
  ∀ x f (i : Int) C d H', Ex ds (x, some (f, i)) → mg x = some (.ref C) → Same H H' → H d = none → H' d = some (.xd [(f, .int i)]) → E (.ref C) (some d) H'
section
variable {P0 : Program} {w : World} {K : PySem.W.Frag} {mg : Str → Option Value} {base : Heap}
/-- a def that may raise -/
def FnX (P0 : Program) (w : World) (K : PySem.W.Frag) (mg : Str → Option Value) (base : Heap) (x : Str) (k : Nat) (Pre : List PyData → Prop) (Post : List PyData → PyData → Prop) (Ex : List PyData → XD → Prop) : Prop :=
  ∃ f fd ps, FnOk P0 w K mg base (L2.CX P0 w) k f fd ps (spX K mg Pre Post Ex) ∧ mg x = some (.ref f) ∧ PySem.W.keepIn K (.ref f) = true ∧ Binds K fd ps []
theorem x_run {x : Str} {st : Stmt} {N ps : List Str} {Pre : List PyData → Prop} {Post : List PyData → PyData → Prop} {Ex : List PyData → XD → Prop} {n : Nat} (hN : ps.length + n + 1 = N.length) (har : ∀ ds, Pre ds → ds.length = ps.length) {f : Addr} {cdv : Value} {A : Around} {outer : List Env} {s : Shared} {H : Hp} {vs : List V} {Q : VK} {E : XK} (hsp : spX K mg Pre Post Ex vs H Q E)
    (body : ∀ ds, Pre ds → XTk (cxOf (L2.CX P0 w) P0 w K mg base N x (defScope st) f cdv A outer s H E) (Ex ds) (fun _ H' => Same H H') →
      SD (cxOf (L2.CX P0 w) P0 w K mg base N x (defScope st) f cdv A outer s H E) (defBody st) (ds.map .fz ++ (List.replicate n .un ++ [.im fun _ => some H])) (bodyN (Post ds))) :
    ∃ t, PSs (cxOf (L2.CX P0 w) P0 w K mg base N x (defScope st) f cdv A outer s H E) (defBody st) t ∧ t { nx := fun _ H' => Q .non H', rt := Q } (L2.start N vs) H := by
  obtain ⟨ds, h1, h2, h3, h4, h5⟩ := hsp
  refine ⟨_, pb_w, ?_⟩
  have tk : XTk (cxOf (L2.CX P0 w) P0 w K mg base N x (defScope st) f cdv A outer s H E) (Ex ds) (fun _ H' => Same H H') := ⟨_, takes_of rfl rfl rfl rfl, fun x C σ H' e m q => h4 x C H' e m q, fun x f i C d σ H1 H' e m q q2 n l => h5 x f i C d H' e m (q.trans q2) (q.free n) l⟩
  have st0 : StF K H (fun _ => False) (ds.map .fz ++ (List.replicate n .un ++ [.im fun _ => some H])) (L2.start N vs) H fun _ => [] := by
    have b := st_start (N := N) (n := n + 1) h1 (by rw [har _ h2]; omega)
    refine ⟨b.same, ?_, b.nd, b.dj, b.fresh, fun i e he => ?_, fun i hi => rfl⟩
    · have q := b.len
      simp only [List.length_append, List.length_map, List.length_replicate, List.length_cons, List.length_nil] at q ⊢
      omega
    · by_cases hi : i < ds.length
      · rw [List.getElem?_append_left (by rw [List.length_map]; exact hi)] at he
        have q := b.ent i e (by rw [List.getElem?_append_left (by rw [List.length_map]; exact hi)]; exact he)
        rw [List.getElem?_map] at he
        cases hd : ds[i]? with
        | none => rw [hd] at he; cases he
        | some d0 => rw [hd] at he; cases he; exact q
      · rw [List.getElem?_append_right (by rw [List.length_map]; omega)] at he
        by_cases h2 : i - (ds.map DE.fz).length < n
        · rw [List.getElem?_append_left (by rw [List.length_replicate]; exact h2), List.getElem?_replicate, if_pos h2] at he
          cases he
          rfl
        · rw [List.getElem?_append_right (by rw [List.length_replicate]; omega)] at he
          cases hz : i - (ds.map DE.fz).length - (List.replicate n DE.un).length with
          | zero =>
            rw [hz] at he
            cases he
            refine ⟨rfl, H, rfl, fun y o hy => hide_some.mpr ⟨fun hu => ?_, hy⟩⟩
            rcases hu with hu | ⟨_, hu⟩
            · exact hu
            · cases hu
          | succ m => rw [hz] at he; simp at he
  have b := body ds h2 tk H (fun _ => False) (L2.start N vs) H (fun a z => z.elim) ⟨_, st0⟩
  have fin : ∀ v H', (Same H H' ∧ ∃ o, RetR K H (fun _ => False) H' v o ∧ (bodyN (Post ds)).rt o) → Q v H' := fun v H' ⟨e, o, r, d, q, hp⟩ => by
    rcases q with q | ⟨q, hl⟩
    · subst q
      obtain ⟨T, a, b, c⟩ := r
      exact h3 d v H' T hp e a b c
    · subst q
      exact h3 d v H' [] hp e (.flt (dp_sub hide_sub _ _ r) hl) .nil (fun a z => by cases z)
  exact wb_mono b (fun σ' H' ⟨ρ', ⟨F', s'⟩, q⟩ => fin .non H' ⟨s'.same, .fz .none, Rp.non, .none, .inr ⟨rfl, rfl⟩, q⟩) fin (fun _ _ ⟨_, _, q⟩ => False.elim q) (fun _ _ ⟨_, _, q⟩ => False.elim q)
theorem fn_X {x : Str} {st : Stmt} {N ps : List Str} {k : Nat} {Pre : List PyData → Prop} {Post : List PyData → PyData → Prop} {Ex : List PyData → XD → Prop} (n : Nat) (T : TxF K mg x st ps) (S : FnScope N ps (defScope st)) (hN : ps.length + n + 1 = N.length) (har : ∀ ds, Pre ds → ds.length = ps.length)
    (body : ∀ (f : Addr) (cdv : Value) (A : Around) (outer : List Env) (s : Shared) (H : Hp) (E : XK), Room k (A.deeper (envOfC x (defScope st) s.heap.objs.size f cdv)) → ∀ ds, Pre ds →
      XTk (cxOf (L2.CX P0 w) P0 w K mg base N x (defScope st) f cdv A outer s H E) (Ex ds) (fun _ H' => Same H H') →
      SD (cxOf (L2.CX P0 w) P0 w K mg base N x (defScope st) f cdv A outer s H E) (defBody st) (ds.map .fz ++ (List.replicate n .un ++ [.im fun _ => some H])) (bodyN (Post ds))) : FnX P0 w K mg base x (k + 1) Pre Post Ex := by
  obtain ⟨f, fd, F, hm, hbi⟩ := T
  exact ⟨f, fd, ps, F.okX S (fun vs H Q E ⟨ds, h1, h2, _⟩ => by rw [dps_len h1, har _ h2]) (fun cdv A outer s H vs Q E hr hsp => x_run hN har hsp (body f cdv A outer s H E hr)), hm, F.kp, hbi⟩
/-- .. whose last parameters have defaults -/
def FnXd (P0 : Program) (w : World) (K : PySem.W.Frag) (mg : Str → Option Value) (base : Heap) (x : Str) (k : Nat) (Pre : List PyData → Prop) (Post : List PyData → PyData → Prop) (Ex : List PyData → XD → Prop) : Prop := FnX P0 w K mg base x k Pre Post Ex
theorem fn_Xd {x : Str} {st : Stmt} {N ps : List Str} {k : Nat} {dvs : List V} {Pre : List PyData → Prop} {Post : List PyData → PyData → Prop} {Ex : List PyData → XD → Prop} (n : Nat) (T : TxD K mg x st ps dvs) (S : FnScope N ps (defScope st)) (hN : ps.length + n + 1 = N.length) (har : ∀ ds, Pre ds → ds.length = ps.length)
    (body : ∀ (f : Addr) (cdv : Value) (A : Around) (outer : List Env) (s : Shared) (H : Hp) (E : XK), Room k (A.deeper (envOfC x (defScope st) s.heap.objs.size f cdv)) → ∀ ds, Pre ds →
      XTk (cxOf (L2.CX P0 w) P0 w K mg base N x (defScope st) f cdv A outer s H E) (Ex ds) (fun _ H' => Same H H') →
      SD (cxOf (L2.CX P0 w) P0 w K mg base N x (defScope st) f cdv A outer s H E) (defBody st) (ds.map .fz ++ (List.replicate n .un ++ [.im fun _ => some H])) (bodyN (Post ds))) : FnX P0 w K mg base x (k + 1) Pre Post Ex := by
  obtain ⟨f, fd, F, hm, hbi, _⟩ := T
  exact ⟨f, fd, ps, F.ok S (fun vs H Q E ⟨ds, h1, h2, _⟩ => by rw [dps_len h1, har _ h2]) (fun cdv A outer s H vs Q E hr hsp => x_run hN har hsp (body f cdv A outer s H E hr)), hm, F.kp, hbi⟩
/-- a def that is handed an exception -/
def spE (K : PySem.W.Frag) (mg : Str → Option Value) (Pre : XD → Prop) (Post : XD → PyData → Prop) : Sp := fun vs H Q _ => ∃ a C dd e, vs = [.ref a] ∧ mg e.1 = some (.ref C) ∧ H a = some (ExE C dd a) ∧ dd.isSome = e.2.isSome ∧ (∀ d, dd = some d → d ≠ a ∧ H d = some (.xd (flV e.2))) ∧ Pre e ∧ ∀ d v H' S, Post e d → Same H H' → OwnR K H' v d S → S.Nodup → (∀ a ∈ S, H a = none) → Q v H'
def FnE (P0 : Program) (w : World) (K : PySem.W.Frag) (mg : Str → Option Value) (base : Heap) (x : Str) (k : Nat) (Pre : XD → Prop) (Post : XD → PyData → Prop) : Prop :=
  ∃ f fd ps, FnOk P0 w K mg base CX0 k f fd ps (spE K mg Pre Post) ∧ mg x = some (.ref f) ∧ PySem.W.keepIn K (.ref f) = true ∧ Binds K fd ps []
theorem fn_E {x : Str} {st : Stmt} {N : List Str} {p : Str} {k : Nat} {Pre : XD → Prop} {Post : XD → PyData → Prop} (T : TxF K mg x st [p]) (S : FnScope N [p] (defScope st))
    (body : ∀ (f : Addr) (cdv : Value) (A : Around) (outer : List Env) (s : Shared) (H : Hp) (E : XK), Room k (A.deeper (envOfC x (defScope st) s.heap.objs.size f cdv)) → ∀ e C dd, Pre e → mg e.1 = some (.ref C) → dd.isSome = e.2.isSome →
      SD (cxOf CX0 P0 w K mg base N x (defScope st) f cdv A outer s H E).nox (defBody st) (.im (exF C dd (flV e.2)) :: List.replicate (N.length - 1) .un) (bodyN (Post e))) : FnE P0 w K mg base x (k + 1) Pre Post := by
  obtain ⟨f, fd, F, hm, hbi⟩ := T
  refine ⟨f, fd, [p], ?_, hm, F.kp, hbi⟩
  refine F.ok S (fun vs H Q E ⟨a, C, dd, e, h1, _⟩ => by rw [h1]; rfl) (fun cdv A outer s H vs Q E hr ⟨a, C, dd, e, h1, hmg, hex, hds, hdd, hpre, h3⟩ => ?_)
  subst h1
  refine ⟨_, pb_w, ?_⟩
  have hN : 1 ≤ N.length := by
    have e := S.pre
    have : (N.take 1).length = 1 := by rw [show N.take 1 = [p] from e]; rfl
    rw [List.length_take] at this
    omega
  have st0 : StF K H (fun _ => False) (.im (exF C dd (flV e.2)) :: List.replicate (N.length - 1) .un) (L2.start N [.ref a]) H fun _ => [] := by
    have b := st_start (K := K) (H := H) (N := N) (vs := []) (ds := []) (n := N.length) .nil (by simp)
    have hl : (L2.start N [.ref a]).length = N.length := by
      have q := b.len
      unfold L2.start at q ⊢
      simp only [List.length_append, List.length_map, List.length_replicate, List.length_cons, List.length_nil] at q ⊢
      omega
    refine ⟨b.same, ?_, b.nd, b.dj, b.fresh, fun i e' he => ?_, fun i hi => rfl⟩
    · rw [List.length_cons, List.length_replicate, hl]
      omega
    · cases i with
      | zero =>
        cases he
        refine ⟨rfl, exH C dd (flV e.2) a, exF_ref (fun z => (hdd a z).1 rfl), fun b u hb => hide_some.mpr ⟨fun hu => ?_, ?_⟩⟩
        · rcases hu with hu | ⟨_, hu⟩
          · exact hu
          · cases hu
        · unfold exH at hb
          by_cases hba : b = a
          · rw [if_pos hba] at hb
            cases hb
            rw [hba]
            exact hex
          · rw [if_neg hba] at hb
            by_cases hd : dd = some b
            · rw [if_pos hd] at hb
              cases hb
              exact (hdd b hd).2
            · rw [if_neg hd] at hb
              cases hb
      | succ i =>
        rw [List.getElem?_cons_succ, List.getElem?_replicate] at he
        split at he
        · cases he
          rfl
        · cases he
  have b := body f cdv A outer s H E hr e C dd hpre hmg hds H (fun _ => False) (L2.start N [.ref a]) H (fun a z => z.elim) ⟨_, st0⟩
  have fin : ∀ v H', (Same H H' ∧ ∃ o, RetR K H (fun _ => False) H' v o ∧ (bodyN (Post e)).rt o) → Q v H' := fun v H' ⟨e1, o, r, d, q, hp⟩ => by
    rcases q with q | ⟨q, hl⟩
    · subst q
      obtain ⟨T, a, b, c⟩ := r
      exact h3 d v H' T hp e1 a b c
    · subst q
      exact h3 d v H' [] hp e1 (.flt (dp_sub hide_sub _ _ r) hl) .nil (fun a z => by cases z)
  exact wb_mono b (fun σ' H' ⟨ρ', ⟨F', s'⟩, q⟩ => fin .non H' ⟨s'.same, .fz .none, Rp.non, .none, .inr ⟨rfl, rfl⟩, q⟩) fin (fun _ _ ⟨_, _, q⟩ => False.elim q) (fun _ _ ⟨_, _, q⟩ => False.elim q)
end
structure CallX (X : Cx) (x : Str) (Pre : List PyData → Prop) (Post : List PyData → PyData → Prop) (Ex : List PyData → XD → Prop) : Prop where
  ex : ∃ (k : Nat) (f : Addr) (fd : FuncData) (ps : List Str), FnOk X.prog X.w X.K X.mg X.base (L2.CX X.prog X.w) k f fd ps (spX X.K X.mg Pre Post Ex) ∧ Room k X.A ∧ X.mg x = some (.ref f) ∧ PySem.W.keepIn X.K (.ref f) = true ∧ Binds X.K fd ps []
theorem callX {X : Cx} {x : Str} {Pre : List PyData → Prop} {Post : List PyData → PyData → Prop} {Ex : List PyData → XD → Prop} {k k' : Nat} (G : FnX X.prog X.w X.K X.mg X.base x k Pre Post Ex) (hr : Room k' X.A) (hk : k ≤ k' := by decide) : CallX X x Pre Post Ex := by
  obtain ⟨f, fd, ps, G, hm, hp, hb⟩ := G
  exact ⟨k, f, fd, ps, G, hr.mono hk, hm, hp, hb⟩
structure CallE (X : Cx) (x : Str) (Pre : XD → Prop) (Post : XD → PyData → Prop) : Prop where
  ex : ∃ (CX : CXT) (k : Nat) (f : Addr) (fd : FuncData) (ps : List Str), FnOk X.prog X.w X.K X.mg X.base CX k f fd ps (spE X.K X.mg Pre Post) ∧ Room k X.A ∧ X.mg x = some (.ref f) ∧ PySem.W.keepIn X.K (.ref f) = true ∧
    Binds X.K fd ps [] ∧ ∀ (Y : Cx), Y.prog = X.prog → Y.w = X.w → Passes CX Y E0
theorem callE {X : Cx} {x : Str} {Pre : XD → Prop} {Post : XD → PyData → Prop} {k k' : Nat} (G : FnE X.prog X.w X.K X.mg X.base x k Pre Post) (hr : Room k' X.A) (hk : k ≤ k' := by decide) : CallE X x Pre Post := by
  obtain ⟨f, fd, ps, G, hm, hp, hb⟩ := G
  exact ⟨CX0, k, f, fd, ps, G, hr.mono hk, hm, hp, hb, fun Y _ _ => pass0⟩
/-- statements, expressions at a fixed ground: what a try's body is -/
def S1at (Y : Cx) (B : Hp) (W : Addr → Prop) (st : Stmt) (ρ : DEnv) (D : DEnds) : Prop := ∀ (σ : L2.St) (H : Hp), MutU W B → StD Y.K B W ρ σ H → WS Y st (toE Y.K B W D) σ H
def RMat (Y : Cx) (B : Hp) (W : Addr → Prop) (e : Expr) (ρ : DEnv) (Q : PyData → Prop) : Prop := ∀ (σ : L2.St) (H : Hp) (F : Nat → List Addr), MutU W B → StF Y.K B W ρ σ H F → WE Y e σ H fun v H' => Same H H' ∧ ∃ d S, OwnR Y.K H' v d S ∧ S.Nodup ∧ (∀ a ∈ S, H a = none) ∧ Q d
section
variable {X : Cx} {ρ : DEnv} {D : DEnds} {a b c e : Expr} {es rest : List Expr} {pos p : Pos} {x : Str} {B : Hp} {W : Addr → Prop}
theorem rmat_callX {Pre : List PyData → Prop} {Post : List PyData → PyData → Prop} {Ex' : List PyData → XD → Prop} {Ex : XD → Prop} {Q : PyData → Prop} (C : CallX X x Pre Post Ex') (tk : XTk X Ex (fun σ H => StD X.K B W ρ σ H)) (h : RA X (a :: es) ρ fun ds => Pre ds ∧ (∀ d, Post ds d → Q d) ∧ ∀ e, Ex' ds e → Ex e)
    (hg : Gl X x := by rfl) (hdb : (x == ("__debug__" : Str)) = false := by decide) (he : starEach (a :: es) X.env = (false, eval a X.env) :: starEach es X.env := by rfl) (hpl : (backTo pos (starEach es X.env)).any (·.1) = false := by rfl) : RMat X B W (.Call (.Name x p) (a :: es) [] pos) ρ Q := fun σ H F hW s => by
  obtain ⟨k, f, fd, ps, G, hr, hm, hk, hb⟩ := C.ex
  obtain ⟨Wx, tk, t1, t2⟩ := tk.ex
  refine we_of (pe_callS G hr hg hm hk hb (fun σ => passAt tk σ) pa_w hdb he hpl) (wa_mono (h _ σ H (s.mut hW) s.env) fun vs H1 ⟨e1, ds, pp, hp, q1, q2⟩ => ?_)
  have s1 := s.mono e1
  refine ⟨ds, pp, hp, fun d v H' S h s o n f => ⟨e1.trans s, d, S, o, n, fun a m => e1.free (f a m), q1 d h⟩, fun x C H' hx hm s2 => t1 x C σ H' (q2 _ hx) hm ⟨F, s1.mono s2⟩, fun x f i C d H' hx hm s2 nd hd => t2 x f i C d σ H1 H' (q2 _ hx) hm ⟨F, s1⟩ s2 nd hd⟩
theorem b_expr (h : RMat X B W e ρ fun _ => D.nx ρ) (hs : swapsWith e none pos.line X.env = pure false := by rfl) : S1at X B W (.Expr e pos) ρ D := fun σ H hW ⟨F, s⟩ =>
  ws_of (ps_expr pe_w hs) (we_mono (h σ H F hW s) fun v H1 ⟨e1, d, S, o, n, f, q⟩ => ⟨_, ⟨F, s.mono e1⟩, q⟩)
theorem b_set (i : Nat) (h : RMat X B W e ρ fun d => (lf d = true ∧ D.nx (setV ρ i (.fz d))) ∨ D.nx (setV ρ i (.ow d))) (hN : X.N.Nodup) (hi : X.N[i]? = some x := by rfl) (hx : Loc X.env.scope x := by first | exact Or.inl rfl | exact Or.inr rfl) (hl : Nat.blt i ρ.length = true := by rfl) (hs : swapsWith e (some (.Name x p)) pos.line X.env = pure false := by rfl)
    (hf : X.fn x = true ∨ X.env.scope.names.lookup x = some .local := by first | exact .inl rfl | exact .inr rfl) : S1at X B W (.Assign [.Name x p] e pos) ρ D := fun σ H hW ⟨F, s⟩ =>
  ws_of (ps_set hN hi hx pe_w hs hf) (we_mono (h σ H F hW s) fun v H1 ⟨e1, d, S, o, n, f, q⟩ => by
    rcases q with ⟨hl', q⟩ | q
    · exact ⟨_, st_setFz s e1 (Nat.blt_eq.mp hl) (dp_lf (hide_tups ((s.mono e1).mut hW)) _ _ (own_dp _ _ _ o) hl'), q⟩
    · exact ⟨_, st_setOw s e1 (Nat.blt_eq.mp hl) o n f, q⟩)
theorem b_if {a b : Stmt} (h : RT X c ρ fun r => (r = true → S1at X B W a ρ D) ∧ (r = false → S1at X B W b ρ D)) : S1at X B W (.If c [a] [b] pos) ρ D := fun σ H hW ⟨F, s⟩ => by
  refine ws_of (ps_if pt_w (pss_one ps_w) (pss_one ps_w)) (wt_mono (h _ σ H (s.mut hW) s.env) fun r H1 ⟨e1, k1, k2⟩ => ?_)
  cases r with
  | true => exact iteT (k1 rfl σ H1 hW ⟨F, s.mono e1⟩)
  | false => exact iteF (k2 rfl σ H1 hW ⟨F, s.mono e1⟩)
end
theorem unV_eq {ρ : DEnv} {k : Nat} : unV ρ k = (ρ.map (kil k)).set k .un := rfl
def DgD (D : DEnds) (i : Nat) : DEnds where
  nx := fun ρ => D.nx (unV ρ i)
  rt := D.rt
  bk := fun ρ => D.bk (unV ρ i)
  ct := fun ρ => D.ct (unV ρ i)
theorem dg_ok {K : PySem.W.Frag} {B : Hp} {W : Addr → Prop} {D : DEnds} {i : Nat} {X : Cx} {sts : List Stmt} {σ : L2.St} {H : Hp} (h : WB X sts (toE K B W (DgD D i)) σ H) : WB X sts (Dg (toE K B W D) i) σ H :=
  wb_mono h (fun σ H ⟨ρ, ⟨F, s⟩, q⟩ => ⟨_, st_gone s i, q⟩) (fun v H q => q) (fun σ H ⟨ρ, ⟨F, s⟩, q⟩ => ⟨_, st_gone s i, q⟩) (fun σ H ⟨ρ, ⟨F, s⟩, q⟩ => ⟨_, st_gone s i, q⟩)
section
variable {X : Cx} {ρ : DEnv} {D : DEnds} {a b c e : Expr} {es rest : List Expr} {pos p : Pos} {x : Str}
/-- try: st; except C as n: suite -/
theorem s_try (i : Nat) {n : Str} {st b₀ : Stmt} {suite : List Stmt} {pos' : Pos} {CL : Addr} (Ex : XD → Prop) (hcl : X.mg x = some (.ref CL))
    (hb : ∀ pn xe B W, XTk (X.tr pn xe) Ex (fun σ H => StD X.K B W ρ σ H) → S1at (X.tr pn xe) B W st ρ D)
    (hm : ∀ e, Ex e → ∀ C, X.mg e.1 = some (.ref C) → PySem.W.exmOne X.K (.ref C) (.ref CL) = some true)
    (hsu : ∀ e, Ex e → ∀ C, X.mg e.1 = some (.ref C) → ∀ a pn dd, dd.isSome = e.2.isSome → SD (X.suite a pn) (b₀ :: suite) (setV ρ i (.im (exF C dd (flV e.2)))) (DgD D i))
    (hN : X.N.Nodup) (hs : X.stack = X.env :: X.outer := by rfl) (hf : X.env.frame = some X.env.locals := by rfl) (hex : X.ex = [] := by rfl) (hi : X.N[i]? = some n := by rfl) (hln : X.env.kindOf n = some .local := by rfl) (hl : Nat.blt i ρ.length = true := by rfl) (hg : Gl X x := by rfl) (hdx : (x == ("__debug__" : Str)) = false := by decide) :
    S1 X (.Try [st] [.ExceptHandler (some (.Name x p)) (some n) (b₀ :: suite) pos'] [] [] pos) ρ D := fun B W σ H hW s => by
  refine ws_tryL (Wx := fun cls d σ H => ∃ e C, Ex e ∧ X.mg e.1 = some (.ref C) ∧ cls = .ref C ∧ d.isSome = e.2.isSome ∧ (∀ dd, d = some dd → H dd = some (.xd (flV e.2))) ∧ StD X.K B W ρ σ H) hs hf hex hN hi hln ⟨hg, hdx, .inl hcl⟩ (fun pn xe tk => ?_) (fun cls d σ' H' ⟨e, C, h1, h2, h3, h4, h5, h6⟩ => ?_)
  · have tk' : XTk (X.tr pn xe) Ex (fun σ H => StD X.K B W ρ σ H) := ⟨_, tk, fun x C σ H q1 q2 q3 => ⟨(x, none), C, q1, q2, rfl, rfl, fun dd z => (by cases z), q3⟩, fun x f i C d σ H H' q1 q2 ⟨F, q3⟩ q4 q5 q6 => ⟨(x, some (f, i)), C, q1, q2, rfl, rfl, fun dd z => (by cases z; exact q6), ⟨F, q3.mono q4⟩⟩⟩
    exact wb_of (pss_one ps_w) (hb pn xe B W tk' σ H hW s)
  · subst h3
    refine ⟨C, rfl, hm e h1 C h2, fun a pn na => ?_⟩
    obtain ⟨F, h6⟩ := h6
    exact dg_ok (hsu e h1 C h2 a pn d h4 B W _ _ hW (st_exc h6 hW (Nat.blt_eq.mp hl) na h5))
/-- raise C('..') -/
theorem s_raise (k : Nat) {H0 : Hp} {Ex : XD → Prop} {m : Str} {j : Nat} {p2 pos' : Pos} (tk : XTk X Ex (fun _ H => Same H0 H)) (hk : ρ[k]? = some (.im fun _ => some H0)) (hE : Ex (x, none))
    (T : ∃ C, X.mg x = some (.ref C) ∧ PySem.W.excIn X.K C [.type "ValueError", .type "Exception", .type "BaseException", .type "object"] "ValueError.__new__" = true ∧ PySem.W.keepIn X.K (.ref C) = true ∧ PySem.W.subIn X.K (.ref C) (.type "BaseException") = some true ∧ PySem.W.typeIn X.K (.ref C) = some (.type "type"))
    (hc : X.calm = true := by rfl) (hg : Gl X x := by rfl) (hdx : (x == ("__debug__" : Str)) = false := by decide) : S1 X (.Raise (some (.Call (.Name x p) [.Constant (.str m) j p2] [] pos')) none pos) ρ D := fun B W σ H hW ⟨F, s⟩ => by
  obtain ⟨Wx, t0, t1, _⟩ := tk.ex
  obtain ⟨C, g1, g2, g3, g4, g5⟩ := T
  obtain ⟨_, g, hgg, hsm⟩ := s.ent k _ hk
  cases hgg
  refine ws_of (ps_raise hc t0 (pmk_own PySem.F.excBase_ValueError g2 g1 g3 (raises_own g4 g5) hg hdx)) ?_
  exact t1 x C σ H hE g1 (hsm.trans hide_sub)
/-- a call that may raise, its refusals passed on -/
theorem rd_callX (k : Nat) {H0 : Hp} {Pre : List PyData → Prop} {Post : List PyData → PyData → Prop} {Ex' : List PyData → XD → Prop} {Ex : XD → Prop} {Q : DE → Prop} (C : CallX X x Pre Post Ex') (tk : XTk X Ex (fun _ H => Same H0 H)) (hk : ρ[k]? = some (.im fun _ => some H0))
    (h : RA X (a :: es) ρ fun ds => Pre ds ∧ (∀ d, Post ds d → Q (nrm d)) ∧ ∀ e, Ex' ds e → Ex e) (hg : Gl X x := by rfl) (hdb : (x == ("__debug__" : Str)) = false := by decide) (he : starEach (a :: es) X.env = (false, eval a X.env) :: starEach es X.env := by rfl) (hpl : (backTo pos (starEach es X.env)).any (·.1) = false := by rfl) :
    RD X (.Call (.Name x p) (a :: es) [] pos) ρ Q := fun U σ H m E => by
  obtain ⟨k', f, fd, ps, G, hr, hm, hkp, hb⟩ := C.ex
  obtain ⟨Wx, tk, t1, t2⟩ := tk.ex
  obtain ⟨g, hgg, hsm⟩ := E.get k _ hk
  cases hgg
  have h0 : Same H0 H := hsm.trans hide_sub
  refine we_of (pe_callS G hr hg hm hkp hb (fun σ => passAt tk σ) pa_w hdb he hpl) (wa_mono (h U σ H m E) fun vs H1 ⟨e1, ds, pp, hp, q1, q2⟩ => ?_)
  refine ⟨ds, pp, hp, fun d v H' S h s o n f => ⟨e1.trans s, nrm d, res_nrm (m.mono (e1.trans s)) o n fun a h => e1.free (f a h), q1 d h⟩, fun x C H' hx hm s2 => t1 x C σ H' (q2 _ hx) hm ((h0.trans e1).trans s2), fun x f i C d H' hx hm s2 nd hd => t2 x f i C d σ H1 H' (q2 _ hx) hm (h0.trans e1) s2 nd hd⟩
/-- the name of a caught exception -/
theorem rd_nI (i : Nat) {C : Addr} {dd : Option Addr} {fl : List (Str × V)} {Q : DE → Prop} (ho : ρ[i]? = some (.im (exF C dd fl))) (q : Q (.im (exF C dd fl)))
    (hN : X.N[i]? = some x := by rfl) (hv : Vis X.env.scope x := by first | exact Or.inl rfl | exact Or.inr (Or.inl rfl) | exact Or.inr (Or.inr rfl)) (hd : (x == ("__debug__" : Str)) = false := by decide) (hcd : (x == ("__classdict__" : Str)) = false := by decide) : RD X (.Name x pos) ρ Q := fun U σ H m E => by
  obtain ⟨g, hg, hs⟩ := E.get i _ ho
  obtain ⟨a, e1, rfl, hne⟩ := exF_val hg
  exact we_of (pe_var hN hv hd hcd) ⟨_, e1, Same.refl _, .im (exF C dd fl), ⟨_, exF_ref hne, hs⟩, q⟩
end
/-- what isinstance asks of an exception's class -/
structure ExcK (K : PySem.W.Frag) (C : Addr) : Prop where
  cl : (PySem.W.clsIn K C).isSome = true
  hg : PySem.W.findIn K (.ref C) "__getattribute__" = some (some (.builtin "BaseException.__getattribute__"))
  hk : PySem.W.findIn K (.ref C) "__getattr__" = some none
  hs : PySem.W.subIn K (.ref C) (.type "BaseException") = some true
  ha : PySem.W.findIn K (.ref C) "__class__" = some (some (.builtin "object.__class__"))
  hn : PySem.W.specialIn K (.builtin "object.__class__") "__get__" = some (some (.builtin "getset_descriptor.__get__"))
  ht : PySem.W.takesIn K (.builtin "object.__class__") = some true
  hm : PySem.W.mroIn K C (.type "object") = some true
theorem kit_self {K : PySem.W.Frag} {C : Addr} : PySem.W.kitOne K (.ref C) (.ref C) = some true := by
  unfold PySem.W.kitOne
  rw [if_pos (beq_self_eq_true _)]
theorem kit_ref {K : PySem.W.Frag} {C D : Addr} {b : Bool} (n : (Value.ref C == Value.ref D) = false) (hc : PySem.W.isClsIn K D = true) (ht : PySem.W.typeIn K (.ref D) = some (.type "type")) (hs : PySem.W.subIn K (.ref C) (.ref D) = some b) : PySem.W.kitOne K (.ref C) (.ref D) = some b := by
  have e2 : ((PySem.W.clsIn K D).isSome && PySem.W.typeIn K (.ref D) == some (.type "type")) = true := by
    have hc' : (PySem.W.clsIn K D).isSome = true := hc
    rw [hc', ht] <;> rfl
  unfold PySem.W.kitOne
  rw [if_neg (by rw [n]; exact Bool.false_ne_true)]
  show (if ((PySem.W.clsIn K D).isSome && PySem.W.typeIn K (.ref D) == some (.type "type")) = true then PySem.W.subIn K (.ref C) (.ref D) else none) = some b
  rw [if_pos e2]
  exact hs
theorem kit_typ {K : PySem.W.Frag} {C : Addr} {T : String} {b : Bool} (hm : PySem.W.kitMeta T = true) (hs : PySem.W.subIn K (.ref C) (.type T) = some b) : PySem.W.kitOne K (.ref C) (.type T) = some b := by
  unfold PySem.W.kitOne
  rw [if_neg (by intro z; cases beq_iff_eq.mp z)]
  show (if PySem.W.kitMeta T = true then PySem.W.subIn K (.ref C) (.type T) else none) = some b
  rw [if_pos hm]
  exact hs
theorem exm_cls {K : PySem.W.Frag} {C S : Addr} (h1 : PySem.W.subIn K (.ref S) (.type "BaseException") = some true) (h2 : PySem.W.isClsIn K S = true) (h3 : PySem.W.typeIn K (.ref S) = some (.type "type")) (h4 : PySem.W.subIn K (.ref C) (.ref S) = some true) : PySem.W.exmOne K (.ref C) (.ref S) = some true := by
  have e1 : (PySem.W.subIn K (.ref S) (.type "BaseException") == some true) = true := by rw [h1] <;> rfl
  have e2 : ((PySem.W.clsIn K S).isSome && PySem.W.typeIn K (.ref S) == some (.type "type")) = true := by
    have h2' : (PySem.W.clsIn K S).isSome = true := h2
    rw [h2', h3] <;> rfl
  show (if (PySem.W.subIn K (.ref S) (.type "BaseException") == some true) = true then (if ((PySem.W.clsIn K S).isSome && PySem.W.typeIn K (.ref S) == some (.type "type")) = true then PySem.W.subIn K (.ref C) (.ref S) else none) else none) = some true
  rw [if_pos e1, if_pos e2]
  exact h4
/-- what isinstance asks of a class of refusals -/
structure ExcB (K : PySem.W.Frag) (C : Addr) : Prop where
  k : ExcK K C
  ve : PySem.W.kitOne K (.ref C) (.type "ValueError") = some true
/-- what raising asks of one without own __init__ -/
structure ExcT (K : PySem.W.Frag) (C : Addr) : Prop where
  x : PySem.W.excIn K C [.type "ValueError", .type "Exception", .type "BaseException", .type "object"] "ValueError.__new__" = true
  kp : PySem.W.keepIn K (.ref C) = true
  hs : PySem.W.subIn K (.ref C) (.type "BaseException") = some true
  ty : PySem.W.typeIn K (.ref C) = some (.type "type")
theorem ExcT.raise {X : Cx} {x : Str} (h : ∃ C, X.mg x = some (.ref C) ∧ ExcT X.K C) : ∃ C, X.mg x = some (.ref C) ∧ PySem.W.excIn X.K C [.type "ValueError", .type "Exception", .type "BaseException", .type "object"] "ValueError.__new__" = true ∧ PySem.W.keepIn X.K (.ref C) = true ∧ PySem.W.subIn X.K (.ref C) (.type "BaseException") = some true ∧ PySem.W.typeIn X.K (.ref C) = some (.type "type") := by
  obtain ⟨C, h1, h2⟩ := h
  exact ⟨C, h1, h2.x, h2.kp, h2.hs, h2.ty⟩
/-- the class named x has, or has not, its instances in the class named y -/
def IsCl (K : PySem.W.Frag) (mg : Str → Option Value) (x y : Str) (b : Bool) : Prop := ∃ C D, mg x = some (.ref C) ∧ mg y = some (.ref D) ∧ PySem.W.kitOne K (.ref C) (.ref D) = some b
def ExmCl (K : PySem.W.Frag) (mg : Str → Option Value) (x y : Str) : Prop := ∃ C D, mg x = some (.ref C) ∧ mg y = some (.ref D) ∧ PySem.W.exmOne K (.ref C) (.ref D) = some true
def rIsX (K : PySem.W.Frag) : List V → Hp → VK → Prop := fun xs H Q => ∃ (C a : Addr) (dd : Option Addr) (fl : List (Str × V)) (c : V) (cv : Value) (b : Bool), xs = [.ref a, c] ∧ ExcK K C ∧ Same (exH C dd fl a) H ∧ dd ≠ some a ∧ (∀ u, RelV c u → u = cv) ∧ PySem.W.kitOne K (.ref C) cv = some b ∧ Q (.bl b) H
theorem call_isX {X : Cx} : CallR X (.builtin "isinstance") (rIsX X.K) := by
  intro pins s σ H xs us Q I r h
  obtain ⟨C, a, dd, fl, c, cv, b, rfl, EC, hs, hne, hcv, hk, q⟩ := h
  obtain ⟨u1, u2, rfl, r1, r2⟩ := vals2 r
  cases (show u1 = Value.ref a from r1)
  have e2 := hcv _ r2
  subst e2
  have ha : H a = some (ExE C dd a) := hs a _ (by unfold exH; rw [if_pos rfl])
  have hx : ObjOk X.prog X.w H s.heap a (.ext fun h => ∃ oe vs, h.get? a = some oe ∧ Zc (.ref C) dd oe ∧ oe.data = .fields vs) := I.hok a _ ha
  obtain ⟨⟨oe, vs, ho, hz, hd⟩, _, _⟩ := hx
  have no : PySem.W.notCls oe = true := by unfold PySem.W.notCls; rw [hd] <;> rfl
  have inst : ∃ od, PySem.W.InstAt s.heap a oe C od := by
    cases dd with
    | none => exact ⟨none, ho, hz.1, no, by rw [hz.2]; trivial⟩
    | some d =>
      have hd2 : H d = some (.xd fl) := hs d _ (by
        unfold exH
        rw [if_neg (fun z => hne (by rw [z])), if_pos rfl])
      have hy : ObjOk X.prog X.w H s.heap d (.xd fl) := I.hok d _ hd2
      obtain ⟨mA, hns, _⟩ := hy
      obtain ⟨od, es, ep, hod, _⟩ := id hns
      exact ⟨some od, ho, hz.1, no, by rw [hz.2]; exact hod⟩
  obtain ⟨od, J⟩ := inst
  exact PySem.W.kia_one (PySem.W.kitx_exc EC.cl EC.hg EC.hk EC.hs EC.ha EC.hn EC.ht EC.hm) I.kIn J hk (fun z => nomatch z) fun tk => ⟨.bl b, H, I.kept (t' := tk) fun _ _ z => z, rfl, q⟩
section
variable {X : Cx} {ρ : DEnv} {a : Expr} {pos p : Pos}
/-- isinstance(e, C), e an exception -/
theorem rd_isE {x y : Str} {py : Pos} {C : Addr} {dd : Option Addr} {fl : List (Str × V)} {b : Bool} {Q : DE → Prop} (hm : X.mg "isinstance" = none) (hC : X.mg x = some (.ref C)) (EC : ∃ C, X.mg x = some (.ref C) ∧ ExcB X.K C) (hkt : IsCl X.K X.mg x y b) (h : RD X a ρ fun o => o = .im (exF C dd fl) ∧ Q (.fz (.bool b)))
    (hg : Gl X "isinstance" := by rfl) (hgy : Gl X y := by rfl) (hdy : (y == ("__debug__" : Str)) = false := by decide)
    (he : starEach [a, .Name y py] X.env = (false, eval a X.env) :: starEach [.Name y py] X.env := by rfl) (he2 : starEach [.Name y py] X.env = (false, eval (.Name y py) X.env) :: starEach [] X.env := by rfl) (hpl : (backTo pos (starEach [.Name y py] X.env)).any (·.1) = false := by rfl) :
    RD X (.Call (.Name "isinstance" p) [a, .Name y py] [] pos) ρ Q := fun U σ H m E => by
  obtain ⟨C', C2, g1, hy, hk⟩ := hkt
  obtain ⟨C'', g2, EC⟩ := EC
  rw [hC] at g1 g2
  cases g1
  cases g2
  exact we_of (pe_callB call_isX hg hm (by decide +kernel) (pa_cons pe_w (pa_cons (pe_glob (v := .ref C2) hgy hy rfl hdy) pa_nil he2) he) (by decide) (by decide) he hpl)
    (we_mono (h U σ H m E) fun v H1 ⟨e1, o, r, ho, q⟩ => by
      subst ho
      obtain ⟨g, hg, hs⟩ := r
      obtain ⟨a', ea, rfl, hne⟩ := exF_val hg
      cases ea
      exact ⟨C, a', dd, fl, .ref C2, .ref C2, b, rfl, EC.k, hs.trans hide_sub, hne, fun u z => z, hk, e1, .fz (.bool b), Rp.bl _, q⟩)
/-- .. of a built-in class -/
theorem rd_isEV {x : Str} {py : Pos} {C : Addr} {dd : Option Addr} {fl : List (Str × V)} {Q : DE → Prop} (hm : X.mg "isinstance" = none) (hmy : X.mg "ValueError" = none) (hC : X.mg x = some (.ref C)) (EC : ∃ C, X.mg x = some (.ref C) ∧ ExcB X.K C) (h : RD X a ρ fun o => o = .im (exF C dd fl) ∧ Q (.fz (.bool true)))
    (hg : Gl X "isinstance" := by rfl) (hgy : Gl X "ValueError" := by rfl)
    (he : starEach [a, .Name "ValueError" py] X.env = (false, eval a X.env) :: starEach [.Name "ValueError" py] X.env := by rfl) (he2 : starEach [.Name "ValueError" py] X.env = (false, eval (.Name "ValueError" py) X.env) :: starEach [] X.env := by rfl) (hpl : (backTo pos (starEach [.Name "ValueError" py] X.env)).any (·.1) = false := by rfl) :
    RD X (.Call (.Name "isinstance" p) [a, .Name "ValueError" py] [] pos) ρ Q := fun U σ H m E => by
  obtain ⟨C'', g2, EC⟩ := EC
  rw [hC] at g2
  cases g2
  exact we_of (pe_callB call_isX hg hm (by decide +kernel) (pa_cons pe_w (pa_cons (pe_bltn (v := .ty "ValueError") hgy hmy (by decide +kernel) rfl (by decide) (by decide)) pa_nil he2) he) (by decide) (by decide) he hpl)
    (we_mono (h U σ H m E) fun v H1 ⟨e1, o, r, ho, q⟩ => by
      subst ho
      obtain ⟨g, hg, hs⟩ := r
      obtain ⟨a', ea, rfl, hne⟩ := exF_val hg
      cases ea
      exact ⟨C, a', dd, fl, .ty "ValueError", .type "ValueError", true, rfl, EC.k, hs.trans hide_sub, hne, fun u z => z, EC.ve, e1, .fz (.bool true), Rp.bl _, q⟩)
/-- a def that is handed an exception -/
theorem rd_callE {x : Str} {e : XD} {C : Addr} {dd : Option Addr} {Pre : XD → Prop} {Post : XD → PyData → Prop} {Q : DE → Prop} (CE : CallE X x Pre Post) (hC : X.mg e.1 = some (.ref C)) (hdd : dd.isSome = e.2.isSome) (hp : Pre e) (h : RD X a ρ fun o => o = .im (exF C dd (flV e.2)) ∧ ∀ d, Post e d → Q (nrm d)) (hg : Gl X x := by rfl)
    (hdb : (x == ("__debug__" : Str)) = false := by decide) (he : starEach [a] X.env = (false, eval a X.env) :: starEach [] X.env := by rfl) (hpl : (backTo pos (starEach [] X.env)).any (·.1) = false := by rfl) : RD X (.Call (.Name x p) [a] [] pos) ρ Q := fun U σ H m E => by
  obtain ⟨CX, k, f, fd, ps, F, hr, hm, hk, hb, hx⟩ := CE.ex
  refine we_of (pe_call F hr hg hm hk hb .nil (hx X rfl rfl) (pa_cons pe_w pa_nil he) hdb he hpl) (we_mono (h U σ H m E) fun v H1 ⟨e1, o, r, ho, q⟩ => ?_)
  subst ho
  obtain ⟨g, hgg, hs⟩ := r
  obtain ⟨a', ea, rfl, hne⟩ := exF_val hgg
  cases ea
  have h0 : Same (exH C dd (flV e.2) a') H1 := hs.trans hide_sub
  refine ⟨a', C, dd, e, rfl, hC, h0 _ _ (by unfold exH; rw [if_pos rfl]), hdd, fun d z => ?_, hp, fun d v H' S h s o n f => ⟨e1.trans s, nrm d, res_nrm (m.mono (e1.trans s)) o n fun a h => e1.free (f a h), q d h⟩⟩
  have hda : d ≠ a' := fun t => hne (by rw [z, t])
  exact ⟨hda, h0 _ _ (by unfold exH; rw [if_neg hda, if_pos z])⟩
end
end DL
namespace DL
open PySem PySem.Spec PyProof.Rows L2
theorem smQ_div {a b : Int} (hb : 0 < b) (ha : a.natAbs < 2 ^ 4000) (h : b.natAbs < 2 ^ 4000) : SmQ (Rat.divInt a b) := by
  obtain ⟨h1, h2⟩ := frac_pos (a := a) hb
  refine ⟨?_, ?_⟩
  · rw [← h1]
    exact Nat.lt_of_le_of_lt (Int.natAbs_ediv_le_natAbs _ _) ha
  · have := Int.natAbs_ediv_le_natAbs b ((Int.gcd a b : Nat) : Int)
    rw [h2, Int.natAbs_natCast] at this
    exact Nat.lt_of_le_of_lt this h
theorem divInt_negs (a b : Int) : Rat.divInt (0 - a) (0 - b) = Rat.divInt a b := by
  rw [Int.zero_sub, Int.zero_sub]
  exact Rat.neg_divInt_neg ..
end DL
namespace DL
open PySem PySem.Spec PyProof.Rows L2
/-! ### a call whose last argument is handed in by its name -/
def TxK (K : PySem.W.Frag) (mg : Str → Option Value) (x : Str) (st : Stmt) (ps : List Str) (dvs : List V) (n : Nat) (kn : Str) : Prop :=
  ∃ f fd, FunD K x x (defArgs st) (defBody st) (defScope st) dvs [] f fd ∧ mg x = some (.ref f) ∧ KBn K fd ps n [kn] (fun us ws => us ++ ws) (fun vs zs => vs ++ zs)
theorem txk_mk {K : PySem.W.Frag} {mg : Str → Option Value} {x : Str} {st : Stmt} {ps : List Str} {u : V} {f : Addr} {fd : FuncData} (F : FunD K x x (defArgs st) (defBody st) (defScope st) [u] [] f fd) (hm : mg x = some (.ref f)) (n : Nat) (kn : Str)
    (h : ∀ (T : Addr) (kV doc pm : Value) (an : Option Addr) (cdv ct : Value) (us its ws : List Value), us.length = n → its.length = 1 → ws.length = 1 →
      ∃ k, bindArgs (PySem.W.fnOf x x (defArgs st) (defBody st) (defScope st) (.ref T) kV doc pm an cdv ct) ⟨us, [kn].zip ws⟩ = seqItems? (.ref T) >>= k ∧ k (some its.toArray) = pure (ps.zip (us ++ ws))) : TxK K mg x st ps [u] n kn := by
  obtain ⟨its, hb⟩ := F.kbindsD (ps := ps) n [kn] (fun us _ ws => us ++ ws) (by simp) (fun r1 _ r2 => r1.append r2) h
  exact ⟨f, fd, F, hm, hb⟩
def FnCk (P0 : Program) (w : World) (K : PySem.W.Frag) (mg : Str → Option Value) (base : Heap) (x : Str) (k n : Nat) (kn : Str) (P : List PyData → PyData → Prop) : Prop :=
  ∃ f fd ps, FnOk P0 w K mg base CX0 k f fd ps (spD K P) ∧ mg x = some (.ref f) ∧ PySem.W.keepIn K (.ref f) = true ∧ KBn K fd ps n [kn] (fun us ws => us ++ ws) (fun vs zs => vs ++ zs)
section
variable {P0 : Program} {w : World} {K : PySem.W.Frag} {mg : Str → Option Value} {base : Heap}
theorem fn_Ck {x : Str} {st : Stmt} {N ps : List Str} {k n : Nat} {kn : Str} {dvs : List V} {P : List PyData → PyData → Prop} (T : TxK K mg x st ps dvs n kn) (S : FnScope N ps (defScope st)) (har : ∀ ds d, P ds d → ds.length = ps.length)
    (body : ∀ (f : Addr) (cdv : Value) (A : Around) (outer : List Env) (s : Shared) (H : Hp) (E : XK), Room k (A.deeper (envOfC x (defScope st) s.heap.objs.size f cdv)) → ∀ ds d, P ds d →
      SD (cxOf CX0 P0 w K mg base N x (defScope st) f cdv A outer s H E).nox (defBody st) (ds.map .fz ++ List.replicate (N.length - ps.length) .un) (bodyE d)) : FnCk P0 w K mg base x (k + 1) n kn P := by
  obtain ⟨f, fd, F, hm, hb⟩ := T
  exact ⟨f, fd, ps, fn_okDd F S har (body f), hm, F.kp, hb⟩
end
section
variable {X : Cx} {ρ : DEnv} {a b : Expr} {es : List Expr} {pos p : Pos} {x : Str}
theorem rd_callK {P : List PyData → PyData → Prop} {k k' : Nat} {kn : Str} {kpos : Pos} {Q : DE → Prop} (G : FnCk X.prog X.w X.K X.mg X.base x k 1 kn P) (hr : Room k' X.A) (h : RV X a ρ fun d1 => RV X b ρ fun d2 => ∃ d, P [d1, d2] d ∧ Q (nrm d)) (hk : k ≤ k' := by decide) (hg : Gl X x := by rfl)
    (hall : (backToKw pos (keywordEach [⟨some kn, b, kpos⟩] X.env)).all (·.1.isSome) = true := by rfl) (hks : (backToKw pos (keywordEach [⟨some kn, b, kpos⟩] X.env)).filterMap (·.1) = [kn] := by rfl)
    (hdb : (x == ("__debug__" : Str)) = false := by decide) (he : starEach (a :: []) X.env = (false, eval a X.env) :: starEach [] X.env := by rfl)
    (hpl : ((backTo pos (starEach (a :: []) X.env)).any (·.1) || (backToKw pos (keywordEach [⟨some kn, b, kpos⟩] X.env)).any (·.1.isNone)) = false := by rfl) : RD X (.Call (.Name x p) [a] [⟨some kn, b, kpos⟩] pos) ρ Q := fun U σ H m E => by
  obtain ⟨f, fd, ps, F, hm, hkp, hb⟩ := G
  refine we_of (pe_callN F (hr.mono hk) hg hm hkp hb pass0 (pa_cons pe_w pa_nil he) (pk_cons pe_w pk_nil) hall hks hdb he hpl) (we_mono (h U σ H m E) fun v H1 ⟨e1, d1, p1, h2⟩ => ?_)
  refine we_mono (h2 U σ H1 (m.mono e1) (envR_same E e1)) fun u H2 ⟨e2, d2, p2, d, hp, q⟩ => ?_
  refine ⟨rfl, rfl, [d1, d2], d, .cons (dp_sub e2 _ _ p1) (.cons p2 .nil), hp, fun v H' S s o n f => ⟨(e1.trans e2).trans s, nrm d, res_nrm (m.mono ((e1.trans e2).trans s)) o n fun a h => (e1.trans e2).free (f a h), q⟩⟩
end
end DL
namespace DL
open PySem PySem.Spec PyProof.Rows L2
/-! ### refusals with a field -/
section
variable {X : Cx} {e : Expr} {es : List Expr} {ta : TA} {p1 p2 pos : Pos} {cn : Str}
/-- B.__init__(self, ..), B a class of the text that has ValueError's -/
theorem pe_clinit {CL : Addr} {pl : Sem Bool} (hg : Gl X cn) (hm : X.mg cn = some (.ref CL)) (rd : PySem.W.readsIn X.K CL (.type "type") = true) (ga : PySem.W.specialIn X.K (.ref CL) "__getattribute__" = some (some (.builtin "type.__getattribute__")))
    (fc : PySem.W.findCls X.K (.ref CL) (.type "type") "__init__" = some (.val (.builtin "ValueError.__init__"))) (ha : PA X (e :: es) ta) (hdb : (cn == ("__debug__" : Str)) = false := by decide)
    (hc : eval (.Call (.Attribute (.Name cn p1) "__init__" p2) (e :: es) [] pos) X.env = (do
      let ov ← eval (.Name cn p1) X.env
      standAt p2.atName
      let (f, first) ← holding [ov] (getMethod ov "__init__" pl)
      callWith pos f first (backTo pos (starEach (e :: es) X.env)) (backToKw pos (keywordEach [] X.env))) := by rfl)
    (he : starEach (e :: es) X.env = (false, eval e X.env) :: starEach es X.env := by rfl) (hpl : (backTo pos (starEach es X.env)).any (·.1) = false := by rfl) :
    PE X (.Call (.Attribute (.Name cn p1) "__init__" p2) (e :: es) [] pos) (tVeI X.K ta) := by
  refine ⟨fun pins s σ H Q I h => PySem.W.methodCall_KW (ld_glob I hg hm ?_ hdb) hc⟩
  refine PySem.W.method_cls I.kIn ga (PySem.W.cls_value I.kIn rd fc (by decide +kernel) ?_)
  show wpAny _ _ (callWith pos (Value.builtin "ValueError.__init__") [] (backTo pos (starEach (e :: es) X.env)) []) _ _ _
  refine PyProof.Rows.callWith_method1 (thn (ha.run pos pins _ σ H _ (I.tok _) h) fun us s1 ⟨vs, H1, I1, r1, a, C, ws, ev, hl, T, ea, q⟩ => ?_) he hpl
  subst ev
  cases r1 with
  | @cons _ u0 _ ur ra rest =>
    cases (show u0 = Value.ref a from ra)
    exact oinit_ok T I1 ea (by rw [← Paired.length rest, sizeLine_eq]; omega) fun s' J => ⟨.non, H1, J, rfl, q⟩
end
/-- what C.__init__(self, f) keeps -/
def spIni (K : PySem.W.Frag) (f : Str) : Sp := fun vs H Q _ => ∃ a C v, vs = [.ref a, v] ∧ OexC K C ∧ PySem.W.findIn K (.ref C) f = some none ∧ H a = some (exo a C none) ∧ ∀ dx, H dx = none → dx ≠ a → Q .non (upd (upd H dx (exd dx [(f, v)])) a (exo a C (some dx)))
/-- a class of refusals with the field f -/
structure FldT (K : PySem.W.Frag) (C fI : Addr) (fd : FuncData) (f : Str) : Prop where
  o : OexC K C
  i : PySem.W.findIn K (.ref C) "__init__" = some (some (.ref fI))
  t : PySem.W.typeIn K (.ref fI) = some (.type "function")
  n : PySem.W.findIn K (.ref C) f = some none
  d : PySem.W.hasDictIn K C = true
  g : PySem.W.findIn K (.ref C) "__getattribute__" = some (some (.builtin "BaseException.__getattribute__"))
  k : PySem.W.findIn K (.ref C) "__getattr__" = some none
  b : Binds K fd ["self", f] []
def FldC (K : PySem.W.Frag) (mg : Str → Option Value) (x f : Str) (st : Stmt) (q : Str) : Prop := ∃ C fI fd, mg x = some (.ref C) ∧ FldT K C fI fd f ∧ Fun K "__init__" q st fI fd
def LotC (K : PySem.W.Frag) (mg : Str → Option Value) : Prop := ∃ CL, mg "LotError" = some (.ref CL) ∧ PySem.W.readsIn K CL (.type "type") = true ∧ PySem.W.specialIn K (.ref CL) "__getattribute__" = some (some (.builtin "type.__getattribute__")) ∧ PySem.W.findCls K (.ref CL) (.type "type") "__init__" = some (.val (.builtin "ValueError.__init__"))
def InitOk (P0 : Program) (w : World) (K : PySem.W.Frag) (mg : Str → Option Value) (base : Heap) (x f : Str) : Prop := ∃ C fI fd, mg x = some (.ref C) ∧ FldT K C fI fd f ∧ FnOk P0 w K mg base CX0 1 fI fd ["self", f] (spIni K f)
theorem ini_run {K : PySem.W.Frag} {f m : Str} {vs : List V} {H : Hp} {Q : VK} {E : XK} (h : spIni K f vs H Q E) : tSeq (tDrop (tVeI K (tCons (tVar 0) (tCons (tC (.str m)) tNil)))) (tOst K f (tVar 0) (tVar 1)) { nx := fun _ H' => Q .non H', rt := Q } (L2.start ["self", f] vs) H := by
  obtain ⟨a, C, v, rfl, T, hn, ha, k⟩ := h
  refine ⟨_, rfl, a, C, [.str m], rfl, (by show 1 ≤ 1000; decide), T, ha, ?_⟩
  exact ⟨_, rfl, _, rfl, a, C, rfl, T, hn, .inl ⟨ha, fun dx n ne => k dx n ne⟩⟩
section
variable {X : Cx} {ρ : DEnv} {D : DEnds} {a e : Expr} {pos p : Pos} {x f : Str}
/-- raise C(e), C with a field -/
theorem s_raiseF (k : Nat) {H0 : Hp} {Ex : XD → Prop} {pos' : Pos} {j : Nat} (tk : XTk X Ex (fun _ H => Same H0 H)) (hk : ρ[k]? = some (.im fun _ => some H0)) (T : InitOk X.prog X.w X.K X.mg X.base x f) (hr : Room j X.A) (h : RV X e ρ fun d => ∃ i, d = .int i ∧ Ex (XD.fld x f i)) (hj : 2 ≤ j := by decide)
    (hc : X.calm = true := by rfl) (hg : Gl X x := by rfl) (hdx : (x == ("__debug__" : Str)) = false := by decide) (he : starEach (e :: []) X.env = (false, eval e X.env) :: starEach [] X.env := by rfl) (hpl : (backTo pos' (starEach [] X.env)).any (·.1) = false := by rfl) :
    S1 X (.Raise (some (.Call (.Name x p) [e] [] pos')) none pos) ρ D := fun B W σ H hW ⟨F, s⟩ => by
  obtain ⟨Wx, t0, _, t2⟩ := tk.ex
  obtain ⟨C, fI, fd, g1, T, G⟩ := T
  obtain ⟨_, g, hgg, hsm⟩ := s.ent k _ hk
  cases hgg
  have h0 : Same H0 H := hsm.trans hide_sub
  refine ws_of (ps_raise hc t0 (pmk_oex T.o T.i T.t G (hr.mono hj) T.b .nil pass0 hg g1 (pa_cons pe_w pa_nil he) hdx he hpl)) ?_
  refine we_mono (h _ σ H (s.mut hW) s.env) fun v H1 ⟨e1, d, pd, i, ed, hE⟩ => ?_
  subst ed
  cases pd
  refine ⟨by show 1 ≤ 1000; decide, fun a na => ?_⟩
  refine ⟨a, C, .int i, rfl, T.o, T.n, upd_same, fun dx n ne => ?_⟩
  have n1 : H1 dx = none := by rw [upd_ne ne] at n; exact n
  refine ⟨rfl, dx, [(f, .int i)], upd_same, by rw [upd_ne ne, upd_same], n1, ?_⟩
  refine t2 x f i C dx σ H1 _ hE g1 (h0.trans e1) (fun b u hb => ?_) n1 upd_same
  have nb : b ≠ dx := fun z => by rw [z, n1] at hb; cases hb
  have nba : b ≠ a := fun z => by rw [z, na] at hb; cases hb
  rw [upd_ne nb]
  show (if b = a then none else upd (upd (upd H1 a (exo a C none)) dx (exd dx [(f, .int i)])) a (exo a C (some dx)) b) = some u
  rw [if_neg nba, upd_ne nba, upd_ne nb, upd_ne nba]
  exact hb
/-- e.f, e a caught refusal with that field -/
theorem rd_fld {C fI d : Addr} {fd : FuncData} {i : Int} {Q : DE → Prop} (T : FldT X.K C fI fd f) (h : RD X a ρ fun o => o = .im (exF C (some d) [(f, .int i)]) ∧ Q (.fz (.int i))) (hb : attributeBase a f X.env (eval a X.env) = eval a X.env := by rfl) : RD X (.Attribute a f pos) ρ Q := fun U σ H m E => by
  intro pins s I
  refine attr_of hb (thn (h U σ H m E pins s I) fun u s1 hh => ?_)
  obtain ⟨v, H1, I1, rv, e1, o, r, ho, q⟩ := hh
  subst ho
  obtain ⟨g, hg, hs⟩ := r
  obtain ⟨a', ea, rfl, hne⟩ := exF_val hg
  cases ea
  cases (show u = Value.ref a' from rv)
  have h0 := hs.trans (hide_sub (H := H1) (U := U))
  have hda : d ≠ a' := fun z => hne (by rw [z])
  have x1 : H1 a' = some (ExE C (some d) a') := h0 _ _ (by unfold exH; rw [if_pos rfl])
  have x2 : H1 d = some (.xd [(f, .int i)]) := h0 _ _ (by unfold exH; rw [if_neg hda, if_pos rfl])
  have y1 : ObjOk X.prog X.w H1 s1.heap a' (.ext fun h => ∃ oe vs, h.get? a' = some oe ∧ Zc (.ref C) (some d) oe ∧ oe.data = .fields vs) := I1.hok a' _ x1
  obtain ⟨⟨oe, vs, ho, hz, hd⟩, _, _⟩ := y1
  have y2 : ObjOk X.prog X.w H1 s1.heap d (.xd [(f, .int i)]) := I1.hok d _ x2
  obtain ⟨mA, hns, hr⟩ := y2
  obtain ⟨od, hod, hl⟩ := lookIn_ns hns
  have l : List.lookup f [(f, V.int i)] = some (.int i) := by simp [List.lookup]
  obtain ⟨w, hu, ru⟩ := RelO.some_of (v := V.int i) (o := mA f) (by rw [← l]; exact hr f)
  have J : PySem.W.InstAt s1.heap a' oe C (some od) := ⟨ho, hz.1, by unfold PySem.W.notCls; rw [hd] <;> rfl, by rw [hz.2]; exact hod⟩
  exact HandSPX.exc_get I1.kIn J T.g T.k T.o.exC (PySem.W.findObj_own T.d T.n rfl (by rw [hl, hu])) (handed_of ru) ⟨.int i, H1, I1.tok _, ru, e1, .fz (.int i), Rp.int i, q⟩
end
end DL
namespace DL
open PySem PySem.Spec PyProof.Rows L2
/-! ### len(set(xs)), any whole numbers -/
theorem met_succ (f : Nat → Int) (i : Nat) : PyProof.Rows.firstMet f (i + 1) = if ((PyProof.Rows.firstMet f i).any (· == f i)) = true then PyProof.Rows.firstMet f i else PyProof.Rows.firstMet f i ++ [f i] := PyProof.Rows.firstMet_succ ..
theorem met_spec (ns : List Int) : ∀ i, i ≤ ns.length → (∀ x, x ∈ PyProof.Rows.firstMet (fun i => ns.getD i 0) i ↔ x ∈ ns.take i) ∧ (PyProof.Rows.firstMet (fun i => ns.getD i 0) i).length ≤ i ∧ ((PyProof.Rows.firstMet (fun i => ns.getD i 0) i).length = i ↔ (ns.take i).Nodup)
  | 0, _ => ⟨fun x => Iff.rfl, Nat.le_refl _, fun _ => by rw [List.take_zero]; exact List.nodup_nil, fun _ => rfl⟩
  | i + 1, hi => by
    obtain ⟨h1, h2, h3⟩ := met_spec ns i (Nat.le_of_succ_le hi)
    have hx : ns[i]? = some (ns.getD i 0) := by rw [List.getD_eq_getElem?_getD, List.getElem?_eq_getElem hi]; rfl
    have ht : ns.take (i + 1) = ns.take i ++ [ns.getD i 0] := by rw [List.take_add_one, hx]; rfl
    rw [met_succ, ht]
    generalize hF : PyProof.Rows.firstMet (fun i => ns.getD i 0) i = F at *
    show (∀ x, x ∈ (if (F.any (· == ns.getD i 0)) = true then F else F ++ [ns.getD i 0]) ↔ _) ∧ _
    generalize ns.getD i 0 = y at *
    have hm : F.any (· == y) = true ↔ y ∈ ns.take i := by
      rw [List.any_eq_true, ← h1]
      constructor
      · rintro ⟨z, hz, e⟩
        rw [← eq_of_beq e]
        exact hz
      · intro hz
        exact ⟨y, hz, beq_self_eq_true y⟩
    by_cases hy : y ∈ ns.take i
    · rw [if_pos (hm.mpr hy)]
      refine ⟨fun x => ?_, by omega, fun e => by omega, fun nd => ?_⟩
      · rw [h1, List.mem_append, List.mem_singleton]
        exact ⟨.inl, fun z => z.elim id fun e => by rw [e]; exact hy⟩
      · have := (List.nodup_append.mp nd).2.2 y hy y (List.mem_singleton.mpr rfl)
        exact absurd rfl this
    · rw [if_neg fun z => hy (hm.mp z)]
      refine ⟨fun x => ?_, by rw [List.length_append]; show F.length + 1 ≤ _; omega, ?_⟩
      · rw [List.mem_append, List.mem_append, h1]
      · rw [List.length_append]
        show F.length + 1 = i + 1 ↔ _
        constructor
        · intro e
          refine List.nodup_append.mpr ⟨h3.mp (by omega), List.nodup_cons.mpr ⟨List.not_mem_nil, List.nodup_nil⟩, fun a ha b hb e => ?_⟩
          rw [List.mem_singleton.mp hb] at e
          exact hy (e ▸ ha)
        · intro nd
          rw [h3.mpr (List.nodup_append.mp nd).1]
section
variable {X : Cx} {ρ : DEnv} {a : Expr} {p p2 q pos : Pos}
def tSetLen (K : PySem.W.Frag) (ta : TE) : TE := fun σ H Q => ta σ H fun x G => ∃ (b : Addr) (ns : List Int), x = .ref b ∧ SqL K G b (ns.map V.int) ∧ ns.length ≤ 4000 ∧ Q (.int ((PyProof.Rows.firstMet (fun i => ns.getD i 0) ns.length).length : Nat)) G
theorem pe_setLen {ta : TE} (gl : Gl X "len") (ml : X.mg "len" = none) (gs : Gl X "set") (ms : X.mg "set" = none) (ha : PE X a ta) (hc : X.calm = true)
    (na : starEach [a] X.env = (false, eval a X.env) :: starEach [] X.env) : PE X (.Call (.Name "len" p) [.Call (.Name "set" p2) [a] [] q] [] pos) (tSetLen X.K ta) := by
  refine ⟨fun pins s σ H Q I h => Call_ (ld_blt I gl ml boot_len (PyProof.Rows.callWith_builtin1 (PyProof.Rows.args_cons ?inner rfl) rfl rfl))⟩
  refine Call_ (ld_blt I gs ms boot_set (PyProof.Rows.callWith_type1 (PyProof.Rows.args_cons (thn (ha.run pins s σ H _ I h) fun v t ⟨x, G, J, rx, b, ns, ex, hb, hz, hq⟩ => PyProof.Rows.args_nil ?_) na) na rfl))
  subst ex
  cases rx
  obtain ⟨its, rv, pl, _⟩ := J.list hb
  have sz : its.toArray.size = ns.length := by rw [List.size_toArray, ← rv.length, List.length_map]
  refine call_set_list (J.ok.hd hc) pl.isList (by simpa using RZ.intsAre_vals rv) (by rw [sz]; unfold scanBound; omega) fun h2 k2 hS hk => PyProof.Rows.args_nil ?_
  rw [sz] at hS
  have lm := (met_spec ns ns.length (Nat.le_refl _)).2.1
  obtain ⟨so, es, ep, st, ho, hex, hd, _, _, _, hf, hn⟩ := hS
  have J2 : Inv X pins σ G { t with heap := h2, toks := k2 } := J.kept fun c o e => hk c o (Heap.lt_size e) e
  exact call_len_set ho hex hd hf (by rw [hn]; omega) ⟨.int ((PyProof.Rows.firstMet (fun i => ns.getD i 0) ns.length).length : Nat), G, J2.tok _, ⟨_, by rw [hn]⟩, hq⟩
theorem rd_setLen {Q : DE → Prop} (hc : X.calm = true) (hm : X.mg "len" = none) (hm2 : X.mg "set" = none) (h : RV X a ρ fun d => ∃ ns : List Int, d = .list (ns.map .int) ∧ ns.length ≤ 4000 ∧ ∀ m : Nat, m ≤ ns.length → (m = ns.length ↔ ns.Nodup) → Q (.fz (.int (m : Nat)))) (hg : Gl X "len" := by rfl) (hg2 : Gl X "set" := by rfl)
    (na : starEach [a] X.env = (false, eval a X.env) :: starEach [] X.env := by rfl) : RD X (.Call (.Name "len" p) [.Call (.Name "set" p2) [a] [] q] [] pos) ρ Q := fun U σ H m E =>
  we_of (pe_setLen hg hm hg2 hm2 pe_w hc na) (we_mono (h U σ H m E) fun v H' ⟨s, d, pp, ns, e, hl, qq⟩ => by
    subst e
    cases pp with
    | lst g1 g2 =>
      rw [dps_intsV g2] at g1
      obtain ⟨_, k1, k2⟩ := met_spec ns ns.length (Nat.le_refl _)
      rw [List.take_length] at k2
      exact ⟨_, ns, rfl, g1, hl, s, .fz (.int _), Rp.int _, qq _ k1 k2⟩)
end
/-- the places of the classes in the laws' list of them -/
def codeOf (x : Str) : Int :=
  if x = "NoTurns" then 0 else if x = "TooGreat" then 1 else if x = "NoAsker" then 2 else if x = "NoThing" then 3 else if x = "Twice" then 4 else if x = "NoNumber" then 5 else if x = "NoText" then 6
  else if x = "NoShares" then 7 else if x = "NoTicket" then 8 else if x = "NoName" then 9 else if x = "Double" then 10 else if x = "NoRow" then 11 else if x = "NoTable" then 12 else 13
theorem atI_bools {bs : List Bool} {k : Nat} (h : k < bs.length) : atI (bs.map PyData.bool) ((k : Nat) : Int) = some (.bool (bs.getD k false)) :=
  atI_nat (by rw [List.getElem?_map, List.getD_eq_getElem?_getD, List.getElem?_eq_getElem h]; rfl)
/-! ### why a table is refused -/
def badAt (p : List Int → Bool) : Nat → List (List Int) → Option Nat
  | _, [] => none
  | k, o :: os => if p o then some k else badAt p (k + 1) os
theorem badAt_none {p : List Int → Bool} : ∀ {k : Nat} {os : List (List Int)}, badAt p k os = none ↔ ∀ o ∈ os, p o = false
  | k, [] => ⟨fun _ o h => (nomatch h), fun _ => rfl⟩
  | k, o :: os => by
    rw [badAt]
    by_cases h : p o = true
    · rw [if_pos h]
      exact ⟨fun z => (by cases z), fun z => by rw [z o List.mem_cons_self] at h; cases h⟩
    · rw [if_neg h, badAt_none]
      have h' : p o = false := by simpa using h
      exact ⟨fun z x hx => (List.mem_cons.mp hx).elim (fun e => by rw [e]; exact h') (z x), fun z x hx => z x (List.mem_cons_of_mem _ hx)⟩
theorem badAt_hit {p : List Int → Bool} : ∀ {s k : Nat} {os : List (List Int)} {o : List Int}, os[k]? = some o → p o = true → (∀ j < k, ∀ o, os[j]? = some o → p o = false) → badAt p s os = some (s + k)
  | s, k, [], _, h, _, _ => by simp at h
  | s, 0, x :: os, o, h, hp, _ => by
    have h' : x = o := Option.some.inj h
    rw [badAt, h', if_pos hp]
    rfl
  | s, k + 1, x :: os, o, h, hp, hn => by
    have h0 := hn 0 (Nat.succ_pos _) x rfl
    rw [badAt, if_neg (by rw [h0]; exact Bool.false_ne_true), badAt_hit (s := s + 1) (k := k) (by simpa using h) hp fun j hj o ho => hn (j + 1) (Nat.succ_lt_succ hj) o (by simpa using ho)]
    congr 1
    omega
def offB (n : Nat) (o : List Int) : Bool := o.any fun x => !(decide (0 ≤ x) && decide (x < (n : Int)))
def dupB (o : List Int) : Bool := !decide o.Nodup
def whyQ (cs : List Int) (os : List (List Int)) : Option XD :=
  if 6 < cs.length ∨ 6 < os.length then some (XD.of "TooGreat")
  else if os.length = 0 then some (XD.of "NoAsker")
  else if (cs.any fun c => !(decide (0 ≤ c) && decide (c ≤ 9))) = true then some (XD.of "NoNumber")
  else match badAt (offB cs.length) 0 os with
    | some k => some (XD.fld "NoThing" "asker" k)
    | none => match badAt dupB 0 os with
      | some k => some (XD.fld "Twice" "asker" k)
      | none => none
/-- a table with another order: how it is refused -/
def outQ (t : Table) (a : Int) (o : List Int) : Option XD := if 0 ≤ a ∧ a < (t.2.length : Int) then whyQ t.1 (t.2.set a.toNat o) else some (XD.of "NoAsker")
def fldD : Option (Str × Int) → PyData
  | none => .none
  | some (_, i) => .int i
theorem why_tab {cs : List Int} {os : List (List Int)} (hc : cs.length ≤ 6) (ho : os.length ≤ 6) (h1 : 1 ≤ os.length) (hb : ∀ c ∈ cs, 0 ≤ c ∧ c ≤ 9) : whyQ cs os = match badAt (offB cs.length) 0 os with
    | some k => some (XD.fld "NoThing" "asker" k)
    | none => match badAt dupB 0 os with
      | some k => some (XD.fld "Twice" "asker" k)
      | none => none := by
  have w3 : ¬ (cs.any fun c => !(decide (0 ≤ c) && decide (c ≤ 9))) = true := fun z => by
    obtain ⟨c, hc, h⟩ := List.any_eq_true.mp z
    rw [decide_eq_true (hb c hc).1, decide_eq_true (hb c hc).2] at h
    cases h
  unfold whyQ
  rw [if_neg (by omega), if_neg (by omega), if_neg w3]
theorem offB_ok {n : Nat} {o : List Int} (h : OrdQ n o) : offB n o = false := by
  cases hb : offB n o with
  | false => rfl
  | true =>
    obtain ⟨x, hx, h2⟩ := List.any_eq_true.mp hb
    rw [decide_eq_true (h.rg x hx).1, decide_eq_true (h.rg x hx).2] at h2
    cases h2
theorem dupB_ok {n : Nat} {o : List Int} (h : OrdQ n o) : dupB o = false := by
  unfold dupB
  rw [decide_eq_true h.nd]
  rfl
/-- only the order told may be amiss -/
theorem out_in {t : Table} (M : MTab t) {a : Int} (h : 0 ≤ a ∧ a < (t.2.length : Int)) (o : List Int) : outQ t a o = if offB t.1.length o = true then some (XD.fld "NoThing" "asker" a) else if dupB o = true then some (XD.fld "Twice" "asker" a) else none := by
  have ha : a.toNat < t.2.length := by omega
  have hO : ∀ x ∈ t.2, OrdQ t.1.length x := fun x hx => ⟨M.nd x hx, M.os x hx⟩
  have hat : (t.2.set a.toNat o)[a.toNat]? = some o := List.getElem?_set_self ha
  have other : ∀ {p : List Int → Bool}, (∀ x ∈ t.2, p x = false) → ∀ j, j ≠ a.toNat → ∀ x, (t.2.set a.toNat o)[j]? = some x → p x = false := fun hp j hj x hx => by
    rw [List.getElem?_set_ne (Ne.symm hj)] at hx
    exact hp x (List.mem_of_getElem? hx)
  have bad : ∀ {p : List Int → Bool}, (∀ x ∈ t.2, p x = false) → badAt p 0 (t.2.set a.toNat o) = if p o = true then some a.toNat else none := fun {p} hp => by
    by_cases ho : p o = true
    · rw [if_pos ho, badAt_hit hat ho fun j hj x hx => other hp j (by omega) x hx, Nat.zero_add]
    · rw [if_neg ho]
      refine badAt_none.mpr fun x hx => ?_
      obtain ⟨j, hj⟩ := List.mem_iff_getElem?.mp hx
      by_cases hja : j = a.toNat
      · rw [hja, hat] at hj
        cases hj
        simpa using ho
      · exact other hp j hja x hj
  unfold outQ
  rw [if_pos h, why_tab M.n (by rw [List.length_set]; exact M.a) (by rw [List.length_set]; omega) M.c, bad fun x hx => offB_ok (hO x hx), bad fun x hx => dupB_ok (hO x hx)]
  have e : ((a.toNat : Nat) : Int) = a := by omega
  by_cases h1 : offB t.1.length o = true
  · rw [if_pos h1, if_pos h1]
    show some (XD.fld _ _ ((a.toNat : Nat) : Int)) = _
    rw [e]
  · rw [if_neg h1, if_neg h1]
    by_cases h2 : dupB o = true
    · rw [if_pos h2, if_pos h2]
      show some (XD.fld _ _ ((a.toNat : Nat) : Int)) = _
      rw [e]
    · rw [if_neg h2, if_neg h2]
theorem tab_inj {t t' : Table} (h : tabD t = tabD t') : t = t' := by
  obtain ⟨c1, o1⟩ := t
  obtain ⟨c2, o2⟩ := t'
  simp only [tabD, PyData.tuple.injEq, List.cons.injEq, and_true] at h
  rw [nums_inj h.1, rows_inj h.2]
/-- what a law writes down of it -/
def toldD (t : Table) (a : Int) (o : List Int) : PyData := match outQ t a o with
  | none => .tuple [tabD (t.1, t.2.set a.toNat o), numsD [], .none]
  | some e => .tuple [.none, numsD [codeOf e.1, 13], fldD e.2]
end DL
namespace DL
open PySem PySem.Spec PyProof.Rows L2
/-! ### shares, or none -/
structure ShX (W : Nat) (sh : List (List Rat)) : Prop where
  w0 : 0 < W
  w : W < 2 ^ 600
  len : sh.length ≤ 7
  row : ∀ r ∈ sh, r.length ≤ 8
  q : ∀ r ∈ sh, ∀ q ∈ r, OnD W q ∧ -3 ≤ q ∧ q ≤ 3
theorem sumX {W : Nat} : ∀ {qs : List Rat}, (∀ q ∈ qs, OnD W q ∧ -3 ≤ q ∧ q ≤ 3) → OnD W (sumQ qs) ∧ -((3 * qs.length : Nat) : Rat) ≤ sumQ qs ∧ sumQ qs ≤ ((3 * qs.length : Nat) : Rat)
  | [], _ => ⟨(OnD.int (D := W) 0 : OnD W 0), by show -((0 : Nat) : Rat) ≤ (0 : Rat); decide +kernel, by show (0 : Rat) ≤ ((0 : Nat) : Rat); decide +kernel⟩
  | q :: qs, h => by
    obtain ⟨h1, h2, h3⟩ := sumX fun x hx => h x (List.mem_cons_of_mem _ hx)
    obtain ⟨g1, g2, g3⟩ := h q List.mem_cons_self
    have e : ((3 * (q :: qs).length : Nat) : Rat) = ((3 * qs.length : Nat) : Rat) + 3 := by
      rw [List.length_cons, Nat.mul_add, Rat.natCast_add]
      rfl
    rw [sumQ, e]
    generalize ((3 * qs.length : Nat) : Rat) = m at *
    exact ⟨g1.add h1, by grind, by grind⟩
theorem ShX.smq {W : Nat} {sh : List (List Rat)} (S : ShX W sh) {q : Rat} (h : OnD W q ∧ -3 ≤ q ∧ q ≤ 3) : SmQ q :=
  smQ_of (M := 3) h.1 S.w0 (Nat.lt_of_lt_of_le S.w (Nat.pow_le_pow_right (by decide) (by decide))) (Nat.lt_of_lt_of_le (by decide : 3 < 2 ^ 2) (Nat.pow_le_pow_right (by decide) (by decide))) h.2.1 h.2.2
theorem ShX.sms {W : Nat} {sh : List (List Rat)} (S : ShX W sh) {qs : List Rat} (h : ∀ q ∈ qs, OnD W q ∧ -3 ≤ q ∧ q ≤ 3) (hl : qs.length ≤ 8) : SmQ (sumQ qs) := by
  obtain ⟨h1, h2, h3⟩ := sumX h
  exact smQ_of (M := 3 * qs.length) h1 S.w0 (Nat.lt_of_lt_of_le S.w (Nat.pow_le_pow_right (by decide) (by decide))) (Nat.lt_of_le_of_lt (Nat.mul_le_mul_left 3 hl) (Nat.lt_of_lt_of_le (by decide : 3 * 8 < 2 ^ 5) (Nat.pow_le_pow_right (by decide) (by decide)))) h2 h3
theorem ShX.smt {W : Nat} {sh : List (List Rat)} (S : ShX W sh) {qs : List Rat} (h : ∀ q ∈ qs, OnD W q ∧ -3 ≤ q ∧ q ≤ 3) (hl : qs.length ≤ 8) (k : Nat) : SmQ (sumQ (qs.take k)) :=
  S.sms (fun q hq => h q (List.mem_of_mem_take hq)) (Nat.le_trans (by rw [List.length_take]; exact Nat.min_le_right ..) hl)
def rowB (n : Nat) (r : List Rat) : Bool := decide (r.length = n + 1) && (r.all (fun q => decide (0 ≤ q)) && decide (sumQ r = 1))
def colQ (sh : List (List Rat)) (t : Nat) : Rat := sumQ (sh.map fun r => r.getD t 0)
def overB (cs : List Int) (sh : List (List Rat)) : Bool := (List.range cs.length).all fun t => decide (colQ sh t ≤ ((cs.getD t 0 : Int) : Rat))
def sharesB (cs : List Int) (sh : List (List Rat)) : Bool := sh.all (rowB cs.length) && overB cs sh
theorem sharesB_bad {cs : List Int} {sh : List (List Rat)} {r : List Rat} (h : r ∈ sh) (hb : rowB cs.length r = false) : sharesB cs sh = false := by
  unfold sharesB
  rw [show sh.all (rowB cs.length) = false from Bool.eq_false_iff.mpr fun z => by
    have := List.all_eq_true.mp z r h
    rw [hb] at this
    cases this]
  rfl
theorem rowB_len {n : Nat} {r : List Rat} (h : rowB n r = true) : r.length = n + 1 := by
  unfold rowB at h
  rw [Bool.and_eq_true] at h
  exact of_decide_eq_true h.1
theorem sum_scale {B : Nat} {c : Rat → Int} : ∀ {qs : List Rat}, (∀ q ∈ qs, ((c q : Int) : Rat) = q * ((B : Nat) : Rat)) → (((qs.map c).sum : Int) : Rat) = sumQ qs * ((B : Nat) : Rat)
  | [], _ => by
    show ((0 : Int) : Rat) = (0 : Rat) * _
    rw [Rat.zero_mul]
    rfl
  | q :: qs, h => by
    rw [List.map_cons, List.sum_cons, sumQ, Rat.add_mul, Rat.intCast_add, h q List.mem_cons_self, sum_scale fun x hx => h x (List.mem_cons_of_mem _ hx)]
theorem cast_le {i j : Int} : ((i : Int) : Rat) ≤ ((j : Int) : Rat) ↔ i ≤ j := Rat.intCast_le_intCast
theorem scale_le {B : Nat} (hB : 0 < B) {a b : Rat} {i j : Int} (ha : ((i : Int) : Rat) = a * ((B : Nat) : Rat)) (hb : ((j : Int) : Rat) = b * ((B : Nat) : Rat)) : i ≤ j ↔ a ≤ b := by
  rw [← cast_le, ha, hb]
  have h0 : (0 : Rat) < ((B : Nat) : Rat) := by
    rw [show (0 : Rat) = ((0 : Nat) : Rat) from rfl]
    exact Rat.natCast_lt_natCast.mpr hB
  refine ⟨fun h => ?_, fun h => Rat.mul_le_mul_of_nonneg_right h (Rat.le_of_lt h0)⟩
  rcases (Rat.le_total (a := a) (b := b)) with z | z
  · exact z
  · by_cases e : a = b
    · rw [e]; exact Rat.le_refl
    · have hlt : b < a := Rat.lt_of_le_of_ne z fun q => e q.symm
      exact absurd h (Rat.not_le.mpr (Rat.mul_lt_mul_of_pos_right hlt h0))
theorem scale_eq {B : Nat} (hB : 0 < B) {a b : Rat} {i j : Int} (ha : ((i : Int) : Rat) = a * ((B : Nat) : Rat)) (hb : ((j : Int) : Rat) = b * ((B : Nat) : Rat)) : i = j ↔ a = b :=
  ⟨fun e => Rat.le_antisymm ((scale_le hB ha hb).mp (Int.le_of_eq e)) ((scale_le hB hb ha).mp (Int.le_of_eq e.symm)), fun e => Int.le_antisymm ((scale_le hB ha hb).mpr (by rw [e]; exact Rat.le_refl)) ((scale_le hB hb ha).mpr (by rw [e]; exact Rat.le_refl))⟩
/-- tops over one bottom -/
abbrev topsQ (B : Nat) (r : List Rat) : List Int := r.map fun q => q.num * ((B : Int) / ((q.den : Nat) : Int))
theorem topsQ_row {B n : Nat} (hB : 0 < B) {r : List Rat} (hd : ∀ q ∈ r, q.den ∣ B) (hl : r.length = n + 1) : rowB n r = (decide (∀ x ∈ topsQ B r, 0 ≤ x) && decide ((topsQ B r).sum = (B : Int))) := by
  have hc : ∀ q ∈ r, ((q.num * ((B : Int) / ((q.den : Nat) : Int)) : Int) : Rat) = q * ((B : Nat) : Rat) := fun q hq => q_over (hd q hq)
  have h1 : (((topsQ B r).sum : Int) : Rat) = sumQ r * ((B : Nat) : Rat) := sum_scale hc
  have h2 : (((B : Nat) : Int) : Rat) = 1 * ((B : Nat) : Rat) := by rw [Rat.one_mul]; rfl
  have h3 := scale_eq hB h1 h2
  unfold rowB
  rw [show decide (r.length = n + 1) = true from decide_eq_true hl, Bool.true_and]
  congr 1
  · rw [Bool.eq_iff_iff, List.all_eq_true, decide_eq_true_iff]
    constructor
    · intro h x hx
      obtain ⟨q, hq, rfl⟩ := List.mem_map.mp hx
      exact (scale_le hB (by rw [Rat.zero_mul]; rfl : ((0 : Int) : Rat) = 0 * ((B : Nat) : Rat)) (hc q hq)).mpr (of_decide_eq_true (h q hq))
    · intro h q hq
      exact decide_eq_true ((scale_le hB (by rw [Rat.zero_mul]; rfl : ((0 : Int) : Rat) = 0 * ((B : Nat) : Rat)) (hc q hq)).mp (h _ (List.mem_map.mpr ⟨q, hq, rfl⟩)))
  · rw [Bool.eq_iff_iff, decide_eq_true_iff, decide_eq_true_iff]
    exact h3.symm
/-- what each thing comes to, over one bottom -/
def totsQ (B : Nat) (n : Nat) (sh : List (List Rat)) : List Int := (List.range n).map fun t => (sh.map fun r => (topsQ B r).getD t 0).sum
theorem tots_zero {B n : Nat} : totsQ B n [] = List.replicate n 0 := by
  show (List.range n).map (fun _ => (0 : Int)) = _
  rw [List.map_const', List.length_range]
theorem tots_at {B n t : Nat} {sh : List (List Rat)} (h : t < n) : (totsQ B n sh)[t]? = some (sh.map fun r => (topsQ B r).getD t 0).sum := by
  unfold totsQ
  rw [List.getElem?_map, List.getElem?_range h]
  rfl
theorem tots_col {B n t : Nat} {sh : List (List Rat)} (hd : ∀ r ∈ sh, ∀ q ∈ r, q.den ∣ B) : (((sh.map fun r => (topsQ B r).getD t 0).sum : Int) : Rat) = colQ sh t * ((B : Nat) : Rat) := by
  unfold colQ
  induction sh with
  | nil =>
    show ((0 : Int) : Rat) = (0 : Rat) * _
    rw [Rat.zero_mul]
    rfl
  | cons r sh ih =>
    rw [List.map_cons, List.sum_cons, List.map_cons, sumQ, Rat.add_mul, Rat.intCast_add, ih fun x hx => hd x (List.mem_cons_of_mem _ hx)]
    congr 1
    by_cases h : t < r.length
    · have e1 : (topsQ B r).getD t 0 = (r.getD t 0).num * ((B : Int) / (((r.getD t 0).den : Nat) : Int)) := by
        rw [List.getD_eq_getElem?_getD, List.getElem?_map, List.getD_eq_getElem?_getD, List.getElem?_eq_getElem h]
        rfl
      have hm : r.getD t 0 ∈ r := by
        rw [List.getD_eq_getElem?_getD, List.getElem?_eq_getElem h]
        exact List.getElem_mem h
      rw [e1]
      exact q_over (hd r List.mem_cons_self _ hm)
    · have e1 : (topsQ B r).getD t 0 = 0 := by
        rw [List.getD_eq_getElem?_getD, List.getElem?_eq_none (by rw [List.length_map]; omega)]
        rfl
      have e2 : r.getD t 0 = 0 := by
        rw [List.getD_eq_getElem?_getD, List.getElem?_eq_none (by omega)]
        rfl
      rw [e1, e2, Rat.zero_mul]
      rfl
end DL
namespace DL
open PySem PySem.Spec PyProof.Rows L2
/-! ### o.remove(e): any plain data -/
section
variable {X : Cx}
def rRemD (K : PySem.W.Frag) : V → List V → Hp → VK → Prop := fun x xs H Q => ∃ (l : Addr) (vs : List V) (u : V) (ds : List PyData) (d : PyData) (j : Nat), x = .ref l ∧ xs = [u] ∧ H l = some (.lst vs) ∧ RpAll K H vs ds ∧ Rp K H u d ∧ min (PyData.depthAll ds) d.depth ≤ 60 ∧ PySem.SeqAt.dataPlace ds d = some j ∧ Q .non (upd H l (.lst (vs.eraseIdx j)))
theorem mt_removeD (hu : X.A.units + 65 < cLine) : MtM X "list.remove" (rRemD X.K) := by
  intro pins s σ H x xs v us Q I rx rxs h
  obtain ⟨l, vs, u0, ds, d, j, rfl, rfl, hH, hds, hd, hdep, hj, q⟩ := h
  cases rx
  obtain ⟨u, rfl, ru⟩ := rxs.one
  obtain ⟨z, its, n, r, hl, e⟩ := I.lstM hH
  obtain ⟨as, r1⟩ := Dp.readsAll I _ _ its (rps_dp _ _ hds) r
  obtain ⟨bs, r2⟩ := Dp.reads I _ u0 u (rp_dp _ _ hd) ru
  have pl := rps_plain _ _ hds
  refine PySem.SeqAt.remove_list_data (vs := its.toArray) ⟨_, e, rfl, n, rfl⟩ (by simpa using r1) r2 pl (rp_plain _ _ hd) (by omega) hj (by rw [List.size_toArray]; omega) ?_
  refine ⟨.non, _, I.lset (its' := its.eraseIdx j) (t' := s.toks) hH e ?_ (r.eraseIdx j) ?_, rfl, q⟩
  · show its.toArray.eraseIdxIfInBounds j = (its.eraseIdx j).toArray
    rw [List.eraseIdxIfInBounds_toArray]
  · have := List.length_eraseIdx_le vs j
    omega
end
section
variable {X : Cx} {ρ : DEnv} {D : DEnds} {o e : Expr} {pos apos cpos : Pos}
theorem s_removeD (hu : X.A.units + 65 < cLine) (h : RD X o ρ fun oo => ∃ j p ds, oo = .al j p ∧ dat ρ oo = some (.list ds) ∧ RV X e ρ fun d => ∃ m, min (PyData.depthAll ds) d.depth ≤ 60 ∧ PySem.SeqAt.dataPlace ds d = some m ∧ D.nx (modE ρ j p (.list (ds.eraseIdx m))))
    (hbase : attributeBase o "remove" X.env (eval o X.env) = eval o X.env := by rfl)
    (hfew : ((backTo cpos (starEach (e :: []) X.env)).all (fun x => !x.1) && (backToKw cpos (keywordEach [] X.env)).all (fun x => x.1.isSome) && decide ((e :: []).length + ([] : List Keyword).length + (if ([] : List Keyword).isEmpty then 0 else 1) < 30)) = true := by rfl)
    (hline : (apos.endLine == cpos.line) = true := by rfl) (hst : starEach (e :: []) X.env = (false, eval e X.env) :: starEach [] X.env := by rfl) (hplain : (backTo cpos (starEach [] X.env)).any (·.1) = false := by rfl)
    (hs : swapsWith (.Call (.Attribute o "remove" apos) [e] [] cpos) none pos.line X.env = pure false := by rfl) : S1 X (.Expr (.Call (.Attribute o "remove" apos) [e] [] cpos) pos) ρ D := fun B W σ H hW ⟨F, s⟩ => by
  refine ws_of (ps_expr (pe_bm PySem.F.plainAttrs_list PySem.F.slot_list_remove PySem.F.type_list_remove (mt_removeD hu) pe_w (pa_cons pe_w pa_nil hst) hbase hfew hline hst hplain) hs) ?_
  refine we_mono (h _ σ H (s.mut hW) s.env) fun v H1 ⟨e1, oo, r, j, p, ds, eo, hd, h2⟩ => ?_
  subst eo
  obtain ⟨a, w, d0, ev, hj, hσ, hat⟩ := st_place s e1 r hd
  subst ev
  obtain ⟨vs0, _, ha0, _⟩ := st_mod0 s e1 hj hσ hat
  refine ⟨.inl ⟨rfl, _, .inl (.inl ha0)⟩, we_mono (h2 _ σ H1 ((s.mono e1).mut hW) (s.mono e1).env) fun u H2 ⟨e2, di, pdi, m, hdep, hm, q⟩ => ?_⟩
  obtain ⟨vs, Sa, ha, hO, nSa, put⟩ := st_mod0 s (e1.trans e2) hj hσ (at_same e2 hat)
  refine ⟨a, vs, u, ds, di, m, rfl, rfl, ha, owns_dp _ _ _ hO, pdi, hdep, hm, _, ?_, q⟩
  obtain ⟨T, g1, g2⟩ := owns_erase m hO
  exact put _ _ T g1 (g2.nodup nSa) fun x hx => .inl (g2.subset hx)
end
end DL
namespace DL
open PySem PySem.Spec PyProof.Rows L2
/-! ### shares that are spoiled -/
structure ShP (W L c : Nat) (sh : List (List Rat)) : Prop where
  w0 : 0 < W
  w : W < 2 ^ 600
  len1 : 1 ≤ sh.length
  len : sh.length ≤ 6
  row : ∀ r ∈ sh, r.length = L
  l1 : 1 ≤ L
  l7 : L ≤ 7
  q : ∀ r ∈ sh, ∀ q ∈ r, OnD W q ∧ -((c : Nat) : Rat) ≤ q ∧ q ≤ ((c : Nat) : Rat) + 1
theorem ShP.bd {c : Nat} (hc : c ≤ 2) {q : Rat} (h : -((c : Nat) : Rat) ≤ q ∧ q ≤ ((c : Nat) : Rat) + 1) : -3 ≤ q ∧ q ≤ 3 := by
  have h2 : ((c : Nat) : Rat) ≤ ((2 : Nat) : Rat) := Rat.natCast_le_natCast.mpr hc
  have h3 : ((2 : Nat) : Rat) = 2 := rfl
  rw [h3] at h2
  obtain ⟨g1, g2⟩ := h
  generalize ((c : Nat) : Rat) = x at *
  exact ⟨by grind, by grind⟩
theorem ShP.x {W L c : Nat} {sh : List (List Rat)} (P : ShP W L c sh) (hc : c ≤ 2) : ShX W sh :=
  ⟨P.w0, P.w, Nat.le_succ_of_le P.len, fun r hr => by rw [P.row r hr]; exact Nat.le_succ_of_le P.l7, fun r hr q hq => ⟨(P.q r hr q hq).1, ShP.bd hc (P.q r hr q hq).2⟩⟩
theorem unit_bd {s : Int} {b : Nat} (hs : s.natAbs ≤ 1) (hb : 0 < b) : -1 ≤ Rat.divInt s (b : Int) ∧ Rat.divInt s (b : Int) ≤ 1 := by
  have e : Rat.divInt s (b : Int) * (((b : Nat) : Int) : Rat) = (s : Rat) := divInt_mul (by omega)
  have h1 : (1 : Rat) ≤ (((b : Nat) : Int) : Rat) := by
    have : (((1 : Int)) : Rat) ≤ (((b : Nat) : Int) : Rat) := Rat.intCast_le_intCast.mpr (by omega)
    exact this
  have h0 : (0 : Rat) < (((b : Nat) : Int) : Rat) := by grind
  have s1 : (s : Rat) ≤ 1 := by
    have : (s : Rat) ≤ ((1 : Int) : Rat) := Rat.intCast_le_intCast.mpr (by omega)
    exact this
  have s2 : -1 ≤ (s : Rat) := by
    have : ((-1 : Int) : Rat) ≤ (s : Rat) := Rat.intCast_le_intCast.mpr (by omega)
    exact this
  generalize Rat.divInt s (b : Int) = x at *
  generalize (((b : Nat) : Int) : Rat) = y at *
  constructor
  · refine Rat.not_lt.mp fun z => ?_
    have := Rat.mul_lt_mul_of_pos_right z h0
    grind
  · refine Rat.not_lt.mp fun z => ?_
    have := Rat.mul_lt_mul_of_pos_right z h0
    grind
theorem unit_on {s : Int} {b : Nat} (hb : 0 < b) : OnD b (Rat.divInt s (b : Int)) := ⟨s, divInt_mul (by omega)⟩
theorem ShP.put {W L c : Nat} {sh : List (List Rat)} (P : ShP W L c sh) {i k b : Nat} {r : List Rat} {s : Int} (hi : sh[i]? = some r) (hk : k < L) (hs : s.natAbs ≤ 1) (hb : 0 < b) (hd : b ∣ W) :
    ShP W L (c + 1) (sh.set i (r.set k (r.getD k 0 + Rat.divInt s b))) := by
  have hr := List.mem_of_getElem? hi
  have hkr : k < r.length := by rw [P.row r hr]; exact hk
  have hm : r.getD k 0 ∈ r := by
    rw [List.getD_eq_getElem?_getD, List.getElem?_eq_getElem hkr]
    exact List.getElem_mem hkr
  obtain ⟨u1, u2⟩ := unit_bd hs hb
  have e : (((c + 1 : Nat)) : Rat) = ((c : Nat) : Rat) + 1 := by rw [Rat.natCast_add]; rfl
  have up : ∀ q : Rat, OnD W q ∧ -((c : Nat) : Rat) ≤ q ∧ q ≤ ((c : Nat) : Rat) + 1 → OnD W q ∧ -((c + 1 : Nat) : Rat) ≤ q ∧ q ≤ ((c + 1 : Nat) : Rat) + 1 := fun q ⟨g1, g2, g3⟩ => by
    rw [e]
    generalize ((c : Nat) : Rat) = x at *
    exact ⟨g1, by grind, by grind⟩
  have new : OnD W (r.getD k 0 + Rat.divInt s b) ∧ -((c + 1 : Nat) : Rat) ≤ r.getD k 0 + Rat.divInt s b ∧ r.getD k 0 + Rat.divInt s b ≤ ((c + 1 : Nat) : Rat) + 1 := by
    obtain ⟨g1, g2, g3⟩ := P.q r hr _ hm
    refine ⟨g1.add ((unit_on hb).dvd hd), ?_⟩
    rw [e]
    generalize ((c : Nat) : Rat) = x at *
    generalize Rat.divInt s b = y at *
    exact ⟨by grind, by grind⟩
  refine ⟨P.w0, P.w, by rw [List.length_set]; exact P.len1, by rw [List.length_set]; exact P.len, fun x hx => ?_, P.l1, P.l7, fun x hx q hq => ?_⟩
  · rcases List.mem_or_eq_of_mem_set hx with z | z
    · exact P.row x z
    · rw [z, List.length_set]
      exact P.row r hr
  · rcases List.mem_or_eq_of_mem_set hx with z | z
    · exact up q (P.q x z q hq)
    · rw [z] at hq
      rcases List.mem_or_eq_of_mem_set hq with z2 | z2
      · exact up q (P.q r hr q z2)
      · rw [z2]
        exact new
theorem ShP.at {W L c : Nat} {sh : List (List Rat)} (P : ShP W L c sh) (hc : c ≤ 2) {i k : Nat} {r : List Rat} (hi : sh[i]? = some r) (hk : k < L) : SmQ (r.getD k 0) := by
  have hr := List.mem_of_getElem? hi
  have hkr : k < r.length := by rw [P.row r hr]; exact hk
  exact (P.x hc).smq ((P.x hc).q r hr _ (by rw [List.getD_eq_getElem?_getD, List.getElem?_eq_getElem hkr]; exact List.getElem_mem hkr))
theorem ShP.scale {W L c b : Nat} {sh : List (List Rat)} (P : ShP W L c sh) (hw : W < 2 ^ 500) (hb : 0 < b) (hb2 : b ≤ 1000) : ShP (W * b) L c sh :=
  ⟨Nat.mul_pos P.w0 hb, Nat.lt_of_lt_of_le (mul_pow_lt (j := 500) (k := 10) hw (by omega)) (Nat.pow_le_pow_right (by decide) (by decide)), P.len1, P.len, P.row, P.l1, P.l7, fun r hr q hq => ⟨(P.q r hr q hq).1.dvd (Nat.dvd_mul_right _ _), (P.q r hr q hq).2⟩⟩
/-- what stays of plain shares -/
theorem ShX.sub {W : Nat} {sh sh' : List (List Rat)} (S : ShX W sh) (hl : sh'.length ≤ 7) (h : ∀ r ∈ sh', r ∈ sh ∨ (r.length ≤ 8 ∧ ∀ q ∈ r, OnD W q ∧ -3 ≤ q ∧ q ≤ 3)) : ShX W sh' :=
  ⟨S.w0, S.w, hl, fun r hr => (h r hr).elim (S.row r) (·.1), fun r hr => (h r hr).elim (S.q r) (·.2)⟩
theorem onD_int {W : Nat} {z : Int} (h1 : -3 ≤ z) (h2 : z ≤ 3) : OnD W ((z : Int) : Rat) ∧ -3 ≤ ((z : Int) : Rat) ∧ ((z : Int) : Rat) ≤ 3 := by
  refine ⟨OnD.int z, ?_, ?_⟩
  · have : ((-3 : Int) : Rat) ≤ (z : Rat) := Rat.intCast_le_intCast.mpr h1
    exact this
  · have : (z : Rat) ≤ ((3 : Int) : Rat) := Rat.intCast_le_intCast.mpr h2
    exact this
theorem erase_mapF {α β : Type} (f : α → β) : ∀ (l : List α) (m : Nat), (l.map f).eraseIdx m = (l.eraseIdx m).map f
  | [], m => by rw [List.eraseIdx_nil]; rfl
  | a :: l, 0 => rfl
  | a :: l, m + 1 => by
    show f a :: (l.map f).eraseIdx m = f a :: (l.eraseIdx m).map f
    rw [erase_mapF f l m]
theorem shares_set {sh : List (List Rat)} {i : Nat} {r : List Rat} : PyData.list ((sh.map frsQ).set i (PyData.list (r.map frQ))) = sharesD (sh.set i r) := by
  show _ = PyData.list ((sh.set i r).map frsQ)
  rw [List.map_set]
theorem mod_shares {sh : List (List Rat)} {i : Nat} {r r' : List Rat} (h : sh[i]? = some r) : modAt (sharesD sh) [i] (PyData.list (r'.map frQ)) = sharesD (sh.set i r') := by
  have hg : (sh.map frsQ)[i]? = some (frsQ r) := by rw [List.getElem?_map, h]; rfl
  show modAt (PyData.list (sh.map frsQ)) [i] _ = _
  simp only [modAt, hg]
  exact shares_set
theorem shares_sub {sh : List (List Rat)} {i : Nat} {r : List Rat} (h : sh[i]? = some r) : subAt (sharesD sh) [i] = some (frsQ r) := subAt_one (by rw [List.getElem?_map, h]; rfl)
theorem place_of {ds : List PyData} {d : PyData} {i : Nat} (h : ds[i]? = some d) (hn : PyData.eqv d d = true) : ∃ m, PySem.SeqAt.dataPlace ds d = some m := by
  cases e : PySem.SeqAt.dataPlace ds d with
  | some m => exact ⟨m, rfl⟩
  | none =>
    have := List.findIdx?_eq_none_iff.mp e d (List.mem_of_getElem? h)
    rw [hn] at this
    cases this
end DL
namespace DL
open PySem PySem.Spec PyProof.Rows L2
/-! ### drawn shares are shares -/
theorem sumQ_divInt {W : Int} (hW : 0 < W) : ∀ zs : List Int, sumQ (zs.map fun z => Rat.divInt z W) * (W : Rat) = ((zs.sum : Int) : Rat)
  | [] => by
    show (0 : Rat) * _ = ((0 : Int) : Rat)
    rw [Rat.zero_mul]
    rfl
  | z :: zs => by
    rw [List.map_cons, sumQ, Rat.add_mul, sumQ_divInt hW zs, divInt_mul hW, List.sum_cons, Rat.intCast_add]
theorem sum_count {w x : Int} : ∀ dl : List Int, (dl.map fun y => if y = x then w else 0).sum = w * (dl.count x : Int)
  | [] => by
    show (0 : Int) = w * ((0 : Nat) : Int)
    omega
  | y :: dl => by
    rw [List.map_cons, List.sum_cons, sum_count dl, List.count_cons]
    by_cases h : y = x
    · rw [if_pos h, if_pos (beq_iff_eq.mpr h), Int.natCast_add, Int.mul_add]
      omega
    · rw [if_neg h, if_neg (fun z => h (beq_iff_eq.mp z)), Nat.add_zero]
      omega
theorem range_getD {β : Type} (f : Int → β) (dl : List Int) : (List.range dl.length).map (fun i => f (dl.getD i 0)) = dl.map f := by
  refine List.ext_getElem? fun i => ?_
  rw [List.getElem?_map, List.getElem?_map]
  by_cases h : i < dl.length
  · rw [List.getElem?_range h, List.getElem?_eq_getElem h]
    show some (f (dl.getD i 0)) = some (f dl[i])
    rw [List.getD_eq_getElem?_getD, List.getElem?_eq_getElem h]
    rfl
  · rw [List.getElem?_eq_none (by rw [List.length_range]; omega), List.getElem?_eq_none (by omega)]
    rfl
theorem col_tops {a : Nat} {x : Int} : ∀ zs : List (Int × List Int), (∀ z ∈ zs, z.2.length = a) → ((List.range a).map fun i => ((zs.filter fun p => decide (p.2.getD i 0 = x)).map (·.1)).sum).sum = (zs.map fun z => z.1 * (z.2.count x : Int)).sum
  | [], _ => sum_map_zero'
  | z :: zs, h => by
    have ih := col_tops (x := x) zs fun y hy => h y (List.mem_cons_of_mem _ hy)
    have hl := h z List.mem_cons_self
    have e : ((List.range a).map fun i => (((z :: zs).filter fun p => decide (p.2.getD i 0 = x)).map (·.1)).sum) = (List.range a).map fun i => (if z.2.getD i 0 = x then z.1 else 0) + ((zs.filter fun p => decide (p.2.getD i 0 = x)).map (·.1)).sum := by
      refine List.map_congr_left fun i _ => ?_
      rw [List.filter_cons]
      by_cases hz : z.2.getD i 0 = x
      · rw [if_pos (by simpa using hz), if_pos hz, List.map_cons, List.sum_cons]
      · rw [if_neg (by simpa using hz), if_neg hz, Int.zero_add]
    rw [e, sum_add', ih, List.map_cons, List.sum_cons]
    congr 1
    rw [← hl]
    have := range_getD (fun y => if y = x then z.1 else 0) z.2
    rw [this, sum_count]
where
  sum_map_zero' : ∀ {a : Nat} {x : Int}, ((List.range a).map fun i => ((([] : List (Int × List Int)).filter fun p => decide (p.2.getD i 0 = x)).map (·.1)).sum).sum = ((([] : List (Int × List Int))).map fun z => z.1 * (z.2.count x : Int)).sum := fun {a x} => by
    show ((List.range a).map fun _ => (0 : Int)).sum = 0
    induction (List.range a) with
    | nil => rfl
    | cons y l ih => rw [List.map_cons, List.sum_cons, ih]; rfl
  sum_add' : ∀ {xs : List Nat} {f g : Nat → Int}, (xs.map fun x => f x + g x).sum = (xs.map f).sum + (xs.map g).sum := fun {xs f g} => by
    induction xs with
    | nil => rfl
    | cons x xs ih => rw [List.map_cons, List.map_cons, List.map_cons, List.sum_cons, List.sum_cons, List.sum_cons, ih]; omega
theorem sum_le' {c : Int} : ∀ {zs : List (Int × List Int)} {x : Int}, (∀ z ∈ zs, 0 ≤ z.1 ∧ (z.2.count x : Int) ≤ c) → (zs.map fun z => z.1 * (z.2.count x : Int)).sum ≤ c * (zs.map (·.1)).sum
  | [], _, _ => by show (0 : Int) ≤ c * 0; omega
  | z :: zs, x, h => by
    have ih := sum_le' (zs := zs) (x := x) fun y hy => h y (List.mem_cons_of_mem _ hy)
    obtain ⟨h1, h2⟩ := h z List.mem_cons_self
    rw [List.map_cons, List.map_cons, List.sum_cons, List.sum_cons, Int.mul_add]
    have := Int.mul_le_mul_of_nonneg_left h2 h1
    rw [Int.mul_comm c]
    omega
theorem Drawn.good {cs : List Int} {a : Nat} {ws : List Int} {dls : List (List Int)} (D : Drawn cs a ws dls) : sharesB cs (drawnQ ws dls a cs.length) = true := by
  obtain ⟨b0, _⟩ := D.bot
  have hW : 0 < ws.sum := by omega
  obtain ⟨B, hB⟩ : ∃ B : Nat, ws.sum = (B : Int) := ⟨ws.sum.toNat, by omega⟩
  have hB0 : 0 < B := by omega
  have hzip : (ws.zip dls).map (·.1) = ws := List.map_fst_zip (by rw [D.len]; exact Nat.le_refl _)
  have cast : (((ws.sum : Int)) : Rat) = ((B : Nat) : Rat) := by rw [hB]; rfl
  unfold sharesB
  rw [Bool.and_eq_true]
  constructor
  · refine List.all_eq_true.mpr fun row hr => ?_
    have hD := D.row hr
    obtain ⟨i, hi, rfl⟩ := List.mem_map.mp hr
    have hi := List.mem_range.mp hi
    unfold rowB
    rw [decide_eq_true hD.1, Bool.true_and, List.all_eq_true.mpr fun q hq => decide_eq_true (hD.2 q hq).2.1, Bool.true_and]
    refine decide_eq_true ?_
    have e := sumQ_divInt hW ((List.range (cs.length + 1)).map fun (x : Nat) => drawnTop ws dls i (x : Int))
    rw [List.map_map] at e
    have e2 := top_all (i := i) (full := (List.range (cs.length + 1)).map fun (x : Nat) => (x : Int)) (by
      refine List.Pairwise.map _ (fun a b h => ?_) (List.nodup_range (n := cs.length + 1))
      show (a : Int) ≠ (b : Int)
      omega) (ws.zip dls) fun z hz => by
      have hd := D.dl z.2 (List.of_mem_zip hz).2
      have := hd.rg _ (mem_getD (by rw [hd.len]; exact hi))
      exact List.mem_map.mpr ⟨(z.2.getD i 0).toNat, List.mem_range.mpr (by omega), by omega⟩
    rw [hzip, List.map_map] at e2
    have e3 : ((List.range (cs.length + 1)).map fun (x : Nat) => drawnTop ws dls i (x : Int)).sum = ws.sum := e2
    rw [e3] at e
    refine (scale_eq hB0 (i := ws.sum) (j := ws.sum) ?_ ?_).mp rfl
    · rw [← cast]
      exact e.symm
    · rw [Rat.one_mul, cast]
  · refine List.all_eq_true.mpr fun t ht => decide_eq_true ?_
    have ht := List.mem_range.mp ht
    have e1 : colQ (drawnQ ws dls a cs.length) t = sumQ (((List.range a).map fun i => drawnTop ws dls i (t : Int)).map fun z => Rat.divInt z ws.sum) := by
      unfold colQ drawnQ
      rw [List.map_map, List.map_map]
      congr 1
      refine List.map_congr_left fun i _ => ?_
      show (((List.range (cs.length + 1)).map fun (x : Nat) => Rat.divInt (drawnTop ws dls i (x : Int)) ws.sum)).getD t 0 = Rat.divInt (drawnTop ws dls i (t : Int)) ws.sum
      rw [List.getD_eq_getElem?_getD, List.getElem?_map, List.getElem?_range (by omega)]
      rfl
    have e2 := sumQ_divInt hW ((List.range a).map fun i => drawnTop ws dls i (t : Int))
    rw [← e1] at e2
    have e3 : ((List.range a).map fun i => drawnTop ws dls i (t : Int)).sum = ((ws.zip dls).map fun z => z.1 * (z.2.count (t : Int) : Int)).sum := col_tops (x := (t : Int)) (ws.zip dls) fun z hz => (D.dl z.2 (List.of_mem_zip hz).2).len
    have e4 : ((ws.zip dls).map fun z => z.1 * (z.2.count (t : Int) : Int)).sum ≤ cs.getD t 0 * ((ws.zip dls).map (·.1)).sum := sum_le' fun z hz => by
      obtain ⟨m1, m2⟩ := List.of_mem_zip hz
      exact ⟨by have := (D.w z.1 m1).1; omega, (D.dl z.2 m2).ct t ht⟩
    rw [hzip] at e4
    rw [e3] at e2
    refine (scale_le hB0 (by rw [← cast]; exact e2.symm) ?_).mp e4
    rw [Rat.intCast_mul, cast]
theorem Drawn.shp {cs : List Int} {a : Nat} {ws : List Int} {dls : List (List Int)} (D : Drawn cs a ws dls) (hn : cs.length ≤ 6) (h1 : 1 ≤ a) (h6 : a ≤ 6) : ShP ws.sum.toNat (cs.length + 1) 0 (drawnQ ws dls a cs.length) ∧ ws.sum.toNat < 2 ^ 500 := by
  obtain ⟨b0, b1⟩ := D.bot
  refine ⟨⟨b0, Nat.lt_of_lt_of_le b1 (Nat.pow_le_pow_right (by decide) (by decide)), by rw [drawnQ_len]; exact h1, by rw [drawnQ_len]; exact h6, fun r hr => (D.row hr).1, by omega, by omega, fun r hr q hq => ?_⟩, Nat.lt_of_lt_of_le b1 (Nat.pow_le_pow_right (by decide) (by decide))⟩
  obtain ⟨g1, g2, g3⟩ := (D.row hr).2 q hq
  refine ⟨g1, ?_, ?_⟩
  · show -((0 : Nat) : Rat) ≤ q
    rw [show -((0 : Nat) : Rat) = 0 by decide +kernel]
    exact g2
  · show q ≤ ((0 : Nat) : Rat) + 1
    rw [show ((0 : Nat) : Rat) + 1 = 1 by decide +kernel]
    exact g3
end DL
namespace DL
open PySem PySem.Spec PyProof.Rows L2
/-! ### a refusal made, not raised -/
section
variable {X : Cx} {ρ : DEnv} {a e : Expr} {pos p : Pos} {x f : Str}
theorem we_made {t : L2.St → Hp → XK → Prop} {σ : L2.St} {H : Hp} {Q : VK} (he : PMk X e t) (h : t σ H fun cls d H' => ∃ C, cls = .ref C ∧ ∀ a, H' a = none → Q (.ref a) (upd H' a (ExE C d a))) : WE X e σ H Q := fun pins s I => by
  refine thn (he pins s σ H _ I h) fun u s1 ⟨a, oe, vs, sI, H', cls, d, eu, J, k, hne, ho, hz, hd, _, na, os, ag, _, C, ec, q⟩ => ?_
  subst eu ec
  refine ⟨.ref a, upd H' a (ExE C d a), ?_, rfl, q a na⟩
  exact J.call' (ch := []) os (Un.laidN k hne na) (J.hok.laidN k na (exE_ok ho hz hd)) ag fun _ z => nomatch z
/-- C(e), C a class of refusals with a field: a new object -/
theorem rd_mkF {pos' : Pos} {j : Nat} {Q : DE → Prop} (T : InitOk X.prog X.w X.K X.mg X.base x f) (hr : Room j X.A) (h : RV X e ρ fun d => ∃ i, d = .int i ∧ ∀ C dd, X.mg x = some (.ref C) → Q (.im (exF C (some dd) [(f, .int i)]))) (hj : 2 ≤ j := by decide)
    (hg : Gl X x := by rfl) (hdx : (x == ("__debug__" : Str)) = false := by decide) (he : starEach (e :: []) X.env = (false, eval e X.env) :: starEach [] X.env := by rfl) (hpl : (backTo pos' (starEach [] X.env)).any (·.1) = false := by rfl) :
    RD X (.Call (.Name x p) [e] [] pos') ρ Q := fun U σ H m E => by
  obtain ⟨C, fI, fd, g1, T, G⟩ := T
  refine we_made (pmk_oex T.o T.i T.t G (hr.mono hj) T.b .nil pass0 hg g1 (pa_cons pe_w pa_nil he) hdx he hpl) ?_
  refine we_mono (h U σ H m E) fun v H1 ⟨e1, d, pd, i, ed, hQ⟩ => ?_
  subst ed
  cases pd
  refine ⟨by show 1 ≤ 1000; decide, fun a na => ?_⟩
  refine ⟨a, C, .int i, rfl, T.o, T.n, upd_same, fun dx n ne => ?_⟩
  have n1 : H1 dx = none := by rw [upd_ne ne] at n; exact n
  refine ⟨rfl, dx, [(f, .int i)], upd_same, by rw [upd_ne ne, upd_same], n1, ?_⟩
  refine ⟨C, rfl, fun a' na' => ?_⟩
  have keep : ∀ b u, H1 b = some u → upd (del (upd (upd (upd H1 a (exo a C none)) dx (exd dx [(f, .int i)])) a (exo a C (some dx))) a) dx (.xd [(f, .int i)]) b = some u := fun b u hb => by
    have nb : b ≠ dx := fun z => by rw [z, n1] at hb; cases hb
    have nba : b ≠ a := fun z => by rw [z, na] at hb; cases hb
    rw [upd_ne nb]
    show (if b = a then none else upd (upd (upd H1 a (exo a C none)) dx (exd dx [(f, .int i)])) a (exo a C (some dx)) b) = some u
    rw [if_neg nba, upd_ne nba, upd_ne nb, upd_ne nba]
    exact hb
  have hdx2 : upd (del (upd (upd (upd H1 a (exo a C none)) dx (exd dx [(f, .int i)])) a (exo a C (some dx))) a) dx (.xd [(f, .int i)]) dx = some (.xd [(f, .int i)]) := upd_same
  generalize upd (del (upd (upd (upd H1 a (exo a C none)) dx (exd dx [(f, .int i)])) a (exo a C (some dx))) a) dx (.xd [(f, .int i)]) = Hf at *
  have nda : dx ≠ a' := fun z => by rw [z, na'] at hdx2; cases hdx2
  have keep2 : ∀ b u, H1 b = some u → upd Hf a' (ExE C (some dx) a') b = some u := fun b u hb => by
    have h2 := keep b u hb
    rw [upd_ne fun z => by rw [z, na'] at h2; cases h2]
    exact h2
  have nU : ∀ b, H1 b = none → ¬ U b := fun b hb hu => by
    have mm := m b hu
    cases hq : H b with
    | none => rw [hq] at mm; exact mm.elim
    | some u =>
      have := e1 b u hq
      rw [hb] at this
      cases this
  have na1 : H1 a' = none := by
    cases hq : H1 a' with
    | none => rfl
    | some u =>
      have := keep a' u hq
      rw [na'] at this
      cases this
  refine ⟨fun b u hb => keep2 b u (e1 b u hb), .im (exF C (some dx) [(f, .int i)]), ⟨_, exF_ref (fun z => nda (Option.some.inj z)), fun b o hb => ?_⟩, hQ C dx g1⟩
  unfold exH at hb
  by_cases h1 : b = a'
  · rw [if_pos h1] at hb
    cases hb
    subst h1
    exact hide_some.mpr ⟨nU b na1, upd_same⟩
  · rw [if_neg h1] at hb
    by_cases h2 : some dx = some b
    · rw [if_pos h2] at hb
      cases hb
      cases h2
      exact hide_some.mpr ⟨nU dx n1, by rw [upd_ne h1]; exact hdx2⟩
    · rw [if_neg h2] at hb
      cases hb
/-- isinstance(e, (A, B)), e an exception -/
def rIsX2 (K : PySem.W.Frag) : List V → Hp → VK → Prop := fun xs H Q => ∃ (C a tp : Addr) (dd : Option Addr) (fl : List (Str × V)) (D1 D2 : Addr) (b1 b2 : Bool), xs = [.ref a, .ref tp] ∧ H tp = some (.tup [.ref D1, .ref D2]) ∧ ExcK K C ∧ Same (exH C dd fl a) H ∧ dd ≠ some a ∧ PySem.W.kitOne K (.ref C) (.ref D1) = some b1 ∧ PySem.W.kitOne K (.ref C) (.ref D2) = some b2 ∧ Q (.bl (b1 || b2)) H
theorem call_isX2 : CallR X (.builtin "isinstance") (rIsX2 X.K) := by
  intro pins s σ H xs us Q I r h
  obtain ⟨C, a, tp, dd, fl, D1, D2, b1, b2, rfl, hT, EC, hs, hne, hk1, hk2, q⟩ := h
  obtain ⟨u1, u2, rfl, r1, r2⟩ := vals2 r
  cases (show u1 = Value.ref a from r1)
  cases (show u2 = Value.ref tp from r2)
  have ha : H a = some (ExE C dd a) := hs a _ (by unfold exH; rw [if_pos rfl])
  have hx : ObjOk X.prog X.w H s.heap a (.ext fun h => ∃ oe vs, h.get? a = some oe ∧ Zc (.ref C) dd oe ∧ oe.data = .fields vs) := I.hok a _ ha
  obtain ⟨⟨oe, vs, ho, hz, hd⟩, _, _⟩ := hx
  have inst : ∃ od, PySem.W.InstAt s.heap a oe C od := by
    have no : PySem.W.notCls oe = true := by unfold PySem.W.notCls; rw [hd] <;> rfl
    cases dd with
    | none => exact ⟨none, ho, hz.1, no, by rw [hz.2]; trivial⟩
    | some d =>
      have hd2 : H d = some (.xd fl) := hs d _ (by
        unfold exH
        rw [if_neg (fun z => hne (by rw [z])), if_pos rfl])
      have hy : ObjOk X.prog X.w H s.heap d (.xd fl) := I.hok d _ hd2
      obtain ⟨mA, hns, _⟩ := hy
      obtain ⟨od, es, ep, hod, _⟩ := id hns
      exact ⟨some od, ho, hz.1, no, by rw [hz.2]; exact hod⟩
  obtain ⟨od, J⟩ := inst
  have hobj : ObjOk X.prog X.w H s.heap tp (.tup [.ref D1, .ref D2]) := I.hok tp _ hT
  obtain ⟨_, its, rv, o, h1, h2, n, h3⟩ := hobj
  have e3 : its = [Value.ref D1, Value.ref D2] := by
    obtain ⟨v1, v2, ev, q1, q2⟩ := vals2 rv
    rw [ev, show v1 = Value.ref D1 from q1, show v2 = Value.ref D2 from q2]
  subst e3
  obtain ⟨oc, odd, dt, sl⟩ := o
  simp only at h2 h3
  subst h2 h3
  refine PySem.W.kia_tup (PySem.W.kitx_exc EC.cl EC.hg EC.hk EC.hs EC.ha EC.hn EC.ht EC.hm) I.kIn J h1 (kitAny_cons (r := b1 || b2) hk1 (fun z => ?_) fun z => by rw [z]; rfl) (fun z => nomatch z) fun tk => ⟨.bl (b1 || b2), H, I.kept (t' := tk) fun _ _ z => z, rfl, q⟩
  subst z
  refine kitAny_cons hk2 (fun z => ?_) fun z => by rw [z]; rfl
  subst z
  exact kitAny_nil
theorem rd_isE2 {x y1 y2 : Str} {p1 p2 p3 : Pos} {x1 : Nat} {C : Addr} {dd : Option Addr} {fl : List (Str × V)} {b1 b2 : Bool} {Q : DE → Prop} (hm : X.mg "isinstance" = none) (hC : X.mg x = some (.ref C)) (EC : ∃ C, X.mg x = some (.ref C) ∧ ExcB X.K C) (k1 : IsCl X.K X.mg x y1 b1) (k2 : IsCl X.K X.mg x y2 b2)
    (h : RD X a ρ fun o => o = .im (exF C dd fl) ∧ Q (.fz (.bool (b1 || b2)))) (hg : Gl X "isinstance" := by rfl) (hg1 : Gl X y1 := by rfl) (hg2 : Gl X y2 := by rfl) (hd1 : (y1 == ("__debug__" : Str)) = false := by decide) (hd2 : (y2 == ("__debug__" : Str)) = false := by decide)
    (he : starEach [a, .Tuple [.Name y1 p1, .Name y2 p2] x1 p3] X.env = (false, eval a X.env) :: starEach [.Tuple [.Name y1 p1, .Name y2 p2] x1 p3] X.env := by rfl) (he2 : starEach [.Tuple [.Name y1 p1, .Name y2 p2] x1 p3] X.env = (false, eval (.Tuple [.Name y1 p1, .Name y2 p2] x1 p3) X.env) :: starEach [] X.env := by rfl)
    (he3 : starEach [.Name y1 p1, .Name y2 p2] X.env = (false, eval (.Name y1 p1) X.env) :: starEach [.Name y2 p2] X.env := by rfl) (he4 : starEach [.Name y2 p2] X.env = (false, eval (.Name y2 p2) X.env) :: starEach [] X.env := by rfl)
    (hpl : (backTo pos (starEach [.Tuple [.Name y1 p1, .Name y2 p2] x1 p3] X.env)).any (·.1) = false := by rfl) :
    RD X (.Call (.Name "isinstance" p) [a, .Tuple [.Name y1 p1, .Name y2 p2] x1 p3] [] pos) ρ Q := fun U σ H m E => by
  obtain ⟨C1, D1, g1, w1, w2⟩ := k1
  obtain ⟨C2, D2, g2, w3, w4⟩ := k2
  obtain ⟨C'', g3, EC⟩ := EC
  rw [hC] at g1 g2 g3
  cases g1
  cases g2
  cases g3
  refine we_of (pe_callB call_isX2 hg hm (by decide +kernel) (pa_cons pe_w (pa_cons (pe_tup (pa_cons (pe_glob (v := .ref D1) hg1 w1 rfl hd1) (pa_cons (pe_glob (v := .ref D2) hg2 w3 rfl hd2) pa_nil he4) he3)) pa_nil he2) he) (by decide) (by decide) he hpl) ?_
  refine we_mono (h U σ H m E) fun v H1 ⟨e1, o, r, ho, q⟩ => ?_
  subst ho
  obtain ⟨g, hg, hs⟩ := r
  obtain ⟨a', ea, rfl, hne⟩ := exF_val hg
  cases ea
  refine ⟨by show 2 ≤ 2 ^ 24; decide, fun tp hp => ?_⟩
  exact ⟨C, a', tp, dd, fl, D1, D2, b1, b2, rfl, upd_same, EC.k, (hs.trans hide_sub).trans (same_new hp), hne, w2, w4, e1.trans (same_new hp), .fz (.bool (b1 || b2)), Rp.bl _, q⟩
end
end DL
namespace DL
open PySem PySem.Spec PyProof.Rows L2
/-! ### sorted(xs), xs any number of tuples of whole numbers -/
theorem perm_lift {α β : Type} {f : α → β} {l m : List β} (p : l.Perm m) : ∀ {L : List α}, l = L.map f → ∃ L' : List α, L'.Perm L ∧ m = L'.map f := by
  induction p with
  | nil => intro L h; exact ⟨L, .refl _, h⟩
  | cons x _ ih =>
    intro L h
    cases L with
    | nil => cases h
    | cons a L =>
      obtain ⟨h1, h2⟩ := List.cons.inj h
      obtain ⟨L', q1, q2⟩ := ih h2
      exact ⟨a :: L', q1.cons a, by rw [h1, q2]; rfl⟩
  | swap x y r =>
    intro L h
    cases L with
    | nil => cases h
    | cons a L =>
      cases L with
      | nil => cases (List.cons.inj h).2
      | cons b L =>
        obtain ⟨h1, h2⟩ := List.cons.inj h
        obtain ⟨h3, h4⟩ := List.cons.inj h2
        exact ⟨b :: a :: L, .swap a b L, by rw [h1, h3, h4]; rfl⟩
  | trans _ _ ih1 ih2 =>
    intro L h
    obtain ⟨L1, q1, q2⟩ := ih1 h
    obtain ⟨L2, q3, q4⟩ := ih2 q2
    exact ⟨L2, q3.trans q1, q4⟩
abbrev tupN (ns : List Int) : PyData := .tuple (ns.map .int)
abbrev tupsN (tss : List (List Int)) : PyData := .list (tss.map tupN)
/-- one item: as tracked, as numbers, as it stands in the heap -/
structure Itm (K : PySem.W.Frag) (H : Hp) (h : Heap) (z : V × List Int × Value) : Prop where
  rp : Rp K H z.1 (tupN z.2.1)
  rl : RelV z.1 z.2.2
  raw : TS.TupInts h z.2.2 z.2.1
theorem itms_of {X : Cx} {pins : List (Addr × Obj)} {σ : L2.St} {H : Hp} {s : Shared} (I : Inv X pins σ H s) : ∀ {tss : List (List Int)} {xs : List V} {us : List Value}, RpAll X.K H xs (tss.map tupN) → Vals xs us → ∃ L : List (V × List Int × Value), xs = L.map (·.1) ∧ tss = L.map (·.2.1) ∧ us = L.map (·.2.2) ∧ ∀ z ∈ L, Itm X.K H s.heap z
  | [], _, _, .nil, .nil => ⟨[], rfl, rfl, rfl, fun z h => (by cases h)⟩
  | ns :: tss, _, _, .cons h1 h2, .cons r1 r2 => by
    obtain ⟨L, e1, e2, e3, hL⟩ := itms_of I h2 r2
    refine ⟨(_, ns, _) :: L, by rw [List.map_cons, ← e1], by rw [List.map_cons, ← e2], by rw [List.map_cons, ← e3], fun z hz => ?_⟩
    rcases List.mem_cons.mp hz with rfl | hz
    · refine ⟨h1, r1, ?_⟩
      cases h1 with
      | tup g1 g2 =>
        rw [dps_intsV g2] at g1
        cases r1
        exact tupI_raw I g1
    · exact hL z hz
theorem itms_rp {K : PySem.W.Frag} {H : Hp} {h : Heap} : ∀ {L : List (V × List Int × Value)}, (∀ z ∈ L, Itm K H h z) → RpAll K H (L.map (·.1)) ((L.map (·.2.1)).map tupN) ∧ Vals (L.map (·.1)) (L.map (·.2.2))
  | [], _ => ⟨.nil, .nil⟩
  | z :: L, hL => by
    obtain ⟨h1, h2⟩ := itms_rp fun y hy => hL y (List.mem_cons_of_mem _ hy)
    have hz := hL z List.mem_cons_self
    exact ⟨.cons hz.rp h1, .cons hz.rl h2⟩
/-- comparing by a rank -/
theorem rank_swo {α : Type} (r : α → Int) : SrtO.Swo fun x y => decide (r x < r y) where
  asym x y h := decide_eq_false (by have := of_decide_eq_true h; omega)
  tr x y z h1 h2 := decide_eq_false (by have := of_decide_eq_false h1; have := of_decide_eq_false h2; omega)
section
variable {prog : Program} {w : World} {A : Around} {s : Shared} {d : Nat} {B : Int} {vs : List Value}
theorem code_sortable (n2 : 2 ≤ vs.length) (hd : 1 ≤ d) (ok : TS.TupsOk s.heap d B vs) {a : Addr} (ha : ∀ o, s.heap.get? a = some o → o.cls = .type "list") {r : Value → Int} (hr : ∀ u ∈ vs, ∀ ns, TS.TupInts s.heap u ns → r u = TS.code B ns) :
    SrtO.SortableO prog w A s a vs fun x y => decide (r x < r y) := fun h' keep => by
  have stay : ∀ b o, s.heap.get? b = some o → o.cls = .type "tuple" → h'.get? b = some o := fun b o e c => by
    refine keep b o (fun z => ?_) e
    have := (ha o (z ▸ e)).symm.trans c
    exact absurd (Value.type.inj this) (by decide)
  have num : ∀ u ∈ vs, ∃ ns, TS.TupInts h' u ns ∧ ns.length = d ∧ TS.Bd B ns ∧ r u = TS.code B ns := fun u hu => by
    obtain ⟨ns, t, l, b⟩ := ok u hu
    exact ⟨ns, t.keeps stay, l, b, hr u hu ns t⟩
  obtain ⟨fs, kt, kl, ki⟩ := TS.firsts_of hd vs (ok.keeps stay)
  refine ⟨tuples' true, fun Q E q => ?_, fun p q hp hq => ?_⟩
  · refine PySem.W.kat_kind (T := .type "int") kt (by omega) (fun f hf => ?_) rfl ?_
    · obtain ⟨i, t, rfl⟩ := ki f hf
      exact .now
    · rw [show (Value.type "int" != Value.type "tuple") = true by decide +kernel]
      exact q
  · obtain ⟨ns, ⟨b1, x1, u1, ⟨o1, g1, _, n1, f1⟩, i1⟩, l1, bd1, r1⟩ := num _ hp
    obtain ⟨ms, ⟨b2, x2, u2, ⟨o2, g2, _, m2, f2⟩, i2⟩, l2, bd2, r2⟩ := num _ hq
    have hsz : decide (x1.size < x2.size) = false := decide_eq_false (by
      have e1 := i1.length
      have e2 := i2.length
      rw [Array.length_toList] at e1 e2
      omega)
    show wpAny (model prog w) A (keyLt' (tuples' true) p.1 q.1) (fun c s' => s' = { s with heap := h' } ∧ c = decide (r p.1 < r q.1)) (fun _ _ => False) { s with heap := h' }
    rw [r1, r2, u1, u2]
    refine PySem.W.kat_lt g1 f1 g2 f2 ?_
    rw [hsz]
    exact TS.lex_ints 0 i1 i2 (l1.trans l2.symm) bd1 bd2 ⟨rfl, rfl⟩
end
section
variable {X : Cx}
def rSortN (K : PySem.W.Frag) (d : Nat) (B : Int) : List V → Hp → VK → Prop := fun vs H Q => ∃ (a : Addr) (xs : List V) (tss : List (List Int)), vs = [V.ref a] ∧ SqL K H a xs ∧ RpAll K H xs (tss.map tupN) ∧ (∀ ns ∈ tss, ns.length = d ∧ TS.Bd B ns) ∧
  ∀ (ys : List V) (tss' : List (List Int)) (p : Addr), tss'.Perm tss → tss'.Pairwise (fun x y => TS.code B x ≤ TS.code B y) → RpAll K H ys (tss'.map tupN) → H p = none → Q (.ref p) (upd H p (.lst ys))
theorem cr_sortN {d : Nat} {B : Int} (hd : 1 ≤ d) : CallR X (.builtin "sorted") (rSortN X.K d B) := fun pins s σ H vs us Q I r ⟨a, xs, tss, ev, hs, hp, hb, q⟩ => by
  subst ev
  obtain ⟨its, rv, hl, hz⟩ := I.list hs
  obtain ⟨L, e1, e2, e3, hL⟩ := itms_of I hp rv
  have lenL : its.length = xs.length := rv.length.symm
  have ok : TS.TupsOk s.heap d B its := fun u hu => by
    rw [e3] at hu
    obtain ⟨z, hzL, rfl⟩ := List.mem_map.mp hu
    have hm : z.2.1 ∈ tss := by rw [e2]; exact List.mem_map.mpr ⟨z, hzL, rfl⟩
    exact ⟨z.2.1, (hL z hzL).raw, hb _ hm⟩
  rw [Vals.ref1 r]
  refine SrtO.sorted_ord (rank_swo fun u => TS.code B (TS.intsOf s.heap u)) hl.isList (by rw [lenL]; exact hz) (fun n2 h₁ b hb1 kk => ?_) fun out hs1 hb1 => ?_
  · refine code_sortable (s := { s with heap := h₁ }) (d := d) (B := B) n2 hd (ok.keeps fun c o e _ => (kk c o e).2) (fun o e => ?_) fun u hu ns t => ?_
    · have : some o = some (seqObj "list" its.toArray 0) := e.symm.trans hb1
      cases this
      rfl
    · obtain ⟨ms, t0, _⟩ := ok u hu
      have e4 : ns = ms := t.ints.symm.trans (t0.keeps fun c o e _ => (kk c o e).2).ints
      rw [e4]
      show TS.code B (TS.intsOf s.heap u) = _
      rw [t0.ints]
  · obtain ⟨L', pl, el⟩ := perm_lift hb1.perm.symm e3
    have hL' : ∀ z ∈ L', Itm X.K H s.heap z := fun z hz => hL z (pl.mem_iff.mp hz)
    obtain ⟨g1, g2⟩ := itms_rp hL'
    obtain ⟨ep, he⟩ := PyProof.Rows.sortedAll_at s.heap its out.toArray
    have hlen : (L'.map (·.1)).length ≤ sizeLine := by
      rw [List.length_map, pl.length_eq, ← List.length_map (f := (·.1)), ← e1]
      exact hz
    refine ⟨.ref _, upd H (s.heap.objs.size + 1) (.lst (L'.map (·.1))), I.laid (t' := s.toks) (fun _ _ => PyProof.Rows.sortedAll_old) (Nat.le_succ _) ⟨hlen, L'.map (·.2.2), ep, g2, by rw [← el]; exact he⟩, rfl, q _ (L'.map (·.2.1)) _ (by rw [e2]; exact pl.map _) ?_ g1 (I.hok.fresh (Nat.le_succ _))⟩
    rw [List.pairwise_map]
    rw [el] at hs1
    refine List.Pairwise.imp_of_mem (fun {x y} hx hy hxy => ?_) (List.pairwise_map.mp hs1)
    have hlt := of_decide_eq_false hxy
    rw [(hL' x hx).raw.ints, (hL' y hy).raw.ints] at hlt
    omega
end
end DL
namespace DL
open PySem PySem.Spec PyProof.Rows L2
/-! ### set(xs), xs tuples of whole numbers of which few are unlike -/
theorem nodup_sub_len {α : Type} [DecidableEq α] : ∀ {l D : List α}, l.Nodup → (∀ x ∈ l, x ∈ D) → l.length ≤ D.length
  | [], _, _, _ => Nat.zero_le _
  | x :: l, D, hn, hs => by
    have hx := hs x List.mem_cons_self
    have := nodup_sub_len (l := l) (D := D.erase x) (List.nodup_cons.mp hn).2 fun y hy => (List.mem_erase_of_ne fun (e : y = x) => (List.nodup_cons.mp hn).1 (by rw [← e]; exact hy)).mpr (hs y (List.mem_cons_of_mem _ hy))
    have e := List.length_erase_of_mem hx
    have := List.length_pos_of_mem hx
    rw [List.length_cons]
    omega
/-- the heap h, with the set at S of what is done so far -/
structure SetSt (P : Program) (w : World) (h0 : Heap) (S : Addr) (done : List (Addr × List Int)) (h : Heap) : Prop where
  keep : ∀ b o, h0.get? b = some o → h.get? b = some o
  own : ∃ L es ep t, SetTR P w h S L es ep t ∧ (∀ p ∈ L, p ∈ done) ∧ ∀ p ∈ done, p.2 ∈ L.map (·.2)
section
variable {P : Program} {w : World} {A : Around} {E : Value → Shared → Prop}
theorem SetSt.moved {h0 h h' : Heap} {S : Addr} {done : List (Addr × List Int)} (T : SetSt P w h0 S done h) (hk : ∀ b o, h.get? b = some o → (h0.get? b = some o ∨ b = S) → h'.get? b = some o) (ht : ∀ p ∈ done, IsT P w h0 p.2 p.1) : SetSt P w h0 S done h' := by
  have kp : ∀ b o, h0.get? b = some o → h'.get? b = some o := fun b o e => hk b o (T.keep b o e) (.inl e)
  obtain ⟨L, es, ep, t, R, h1, h2⟩ := T.own
  exact ⟨kp, L, es, ep, t, R.keep (fun o e => hk S o e (.inr rfl)) (fun p hp => isT_keep (ht p (h1 p hp)) kp), h1, h2⟩
theorem SetSt.add {h0 : Heap} {s : Shared} {S : Addr} {done : List (Addr × List Int)} {D : List (List Int)} (T : SetSt P w h0 S done s.heap) (hD : ∀ p ∈ done, p.2 ∈ D) (few : D.length + 1 < 64) (hS : h0.get? S = none) {p : Addr × List Int} (hp : IsT P w h0 p.2 p.1) (hu : A.units < cLine) {Q : Bool → Shared → Prop}
    (q : ∀ b h' tk, s.toks ≤ tk → Heap.SameBut S s.heap h' → SetSt P w h0 S (done ++ [p]) h' → Q b { s with heap := h', toks := tk }) : wpAny (model P w) A (setAdd S (.ref p.1)) Q E s := by
  obtain ⟨L, es, ep, t, R, h1, h2⟩ := T.own
  have lenL : L.length ≤ D.length := by
    have := nodup_sub_len (D := D) R.nd fun k hk => by
      obtain ⟨y, hy, rfl⟩ := List.mem_map.mp hk
      exact hD y (h1 y hy)
    rwa [List.length_map] at this
  have hx : IsT P w s.heap p.2 p.1 := isT_keep hp T.keep
  unfold setAdd
  refine wpAny_holding (wpAny_bind (wpAny_pyHash_tuple hu hx ?_))
  refine add_at (s := { s with toks := s.toks + (p.2.length + 1) }) R hx hu (by omega) fun b h' L' es' ep' t' sb R' same more => ?_
  refine q b h' _ (Nat.le_add_right _ _) sb ⟨fun b o e => (sb.2 b fun z => by rw [z, hS] at e; cases e).trans (T.keep b o e), L', es', ep', t', R', ?_⟩
  by_cases c : p.2 ∈ L.map (·.2)
  · rw [same c]
    refine ⟨fun y hy => List.mem_append_left _ (h1 y hy), fun y hy => ?_⟩
    rcases List.mem_append.mp hy with z | z
    · exact h2 y z
    · rw [List.mem_singleton.mp z]
      exact c
  · have pm := more c
    refine ⟨fun y hy => ?_, fun y hy => ?_⟩
    · rcases List.mem_cons.mp (pm.mem_iff.mp hy) with z | z
      · rw [z]
        exact List.mem_append_right _ (List.mem_singleton.mpr rfl)
      · exact List.mem_append_left _ (h1 y z)
    · rw [(pm.map (·.2)).mem_iff, List.map_cons]
      rcases List.mem_append.mp hy with z | z
      · exact List.mem_cons_of_mem _ (h2 y z)
      · rw [List.mem_singleton.mp z]
        exact List.mem_cons_self
theorem set_loop {I S : Addr} {fp wr : List Addr} {G : Array GenState → Array GenState → Prop} {Pv : Nat → Value → Prop} {St : Nat → Shared → Prop} {ks : List (Addr × List Int)} {D : List (List Int)} {h0 : Heap} {R : Result → Shared → Prop}
    (W : WalksS P w A.in1 I fp wr G ks.length Pv St) (nS : S ∉ fp) (val : ∀ i v, Pv i v → ∃ p, ks[i]? = some p ∧ v = .ref p.1) (ht : ∀ p ∈ ks, IsT P w h0 p.2 p.1) (hD : ∀ p ∈ ks, p.2 ∈ D) (few : D.length + 1 < 64) (hS : h0.get? S = none) (hw : ∀ b ∈ wr, h0.get? b = none) (hu : A.in1.units < cLine) :
    ∀ (rest done : List (Addr × List Int)) (s : Shared), ks = done ++ rest → St done.length s → SetSt P w h0 S done s.heap → (∀ s', Moved (S :: wr) G s s' → SetSt P w h0 S ks s'.heap → R (.ok (.ret .none)) s') → codeAny (model P w) A (.builtin "set.update.loop" ⟨[.ref S, .ref I], []⟩) R s := by
  have wS : S ∉ wr := fun z => nS (W.sub _ z)
  have past : ∀ {s s' : Shared}, Moved wr G s s' → ∀ b o, s.heap.get? b = some o → (h0.get? b = some o ∨ b = S) → s'.heap.get? b = some o := fun mv b o e c => mv.heap b o (fun z => by
    rcases c with c | c
    · rw [hw b z] at c
      cases c
    · exact wS (c ▸ z)) e
  intro rest
  induction rest with
  | nil =>
    intro done s e st T fin
    rw [List.append_nil] at e
    subst e
    refine codeAny_builtin F.entry_set_update_loop ?_
    rw [Around.under_plainId F.plain_set_update_loop _]
    show wpAny _ A.in1 (pyNext (.ref I) >>= _) _ _ s
    refine wpAny_bind (W.done s _ _ st fun s' mv => ?_)
    exact wpAny_pure (fin s' ⟨fun b o hb => mv.heap b o fun z => hb (List.mem_cons_of_mem _ z), mv.gens, mv.drawn, mv.os, mv.toks⟩ (T.moved (past mv) ht))
  | cons p rest ih =>
    intro done s e st T fin
    have hat : ks[done.length]? = some p := by rw [e, List.getElem?_append_right (Nat.le_refl _), Nat.sub_self]; rfl
    have hlt : done.length < ks.length := (List.getElem?_eq_some_iff.mp hat).1
    have hdone : ∀ y ∈ done, y ∈ ks := fun y hy => by rw [e]; exact List.mem_append_left _ hy
    refine codeAny_builtin F.entry_set_update_loop ?_
    rw [Around.under_plainId F.plain_set_update_loop _]
    show wpAny _ A.in1 (pyNext (.ref I) >>= _) _ _ s
    refine wpAny_bind (W.item done.length s _ _ hlt st fun v s1 hv st1 mv => ?_)
    obtain ⟨p', hp', rfl⟩ := val _ _ hv
    rw [hat] at hp'
    cases hp'
    show wpAny _ A.in1 (holding [Value.ref p.1] (setAdd S (.ref p.1)) >>= _) _ _ s1
    have T1 := T.moved (past mv) fun y hy => ht y (hdone y hy)
    refine wpAny_bind (wpAny_holding (T1.add (fun y hy => hD y (hdone y hy)) few hS (ht p (List.mem_of_getElem? hat)) hu fun b h' tk ltk sb T2 => ?_))
    refine wpAny_pure ⟨plainId_quiet F.plain_set_update_loop _, ih (done ++ [p]) _ (by rw [e, List.append_assoc]; rfl) ?_ T2 fun s2 mv2 T3 => fin s2 ?_ T3⟩
    · rw [List.length_append]
      refine W.frame _ s1 _ _ st1 ltk fun c hc o ho => (sb.2 c fun z => nS (z ▸ hc)).trans ho
    · refine ⟨fun c o hc ho => mv2.heap c o hc ?_, W.gtrans _ _ _ mv.gens mv2.gens, mv2.drawn.trans mv.drawn, mv2.os.trans mv.os, Nat.le_trans mv.toks (Nat.le_trans ltk mv2.toks)⟩
      exact (sb.2 c fun z => hc (z ▸ List.mem_cons_self)).trans (mv.heap c o (fun z => hc (List.mem_cons_of_mem _ z)) ho)
end
end DL
namespace DL
open PySem PySem.Spec PyProof.Rows L2
abbrev newSet (w : World) : Obj := { cls := .type "set", dict := none, data := .set #[] 0 (.fresh 0 0 (!w.params.followText "set-order")) }
section
variable {P : Program} {w : World} {A : Around} {E : Value → Shared → Prop} {s : Shared}
/-- S.update(l) behind the set's birth: what set.__init__ does with a list of tuples -/
theorem set_filled {h0 : Heap} {l : Addr} {items : Array Value} {ks : List (Addr × List Int)} {D : List (List Int)} {R : Result → Shared → Prop} (hh : A.in1.handled = none) (hl : h0.IsList l items) (hit : items.toList = ks.map fun p => Value.ref p.1) (ht : ∀ p ∈ ks, IsT P w h0 p.2 p.1) (hD : ∀ p ∈ ks, p.2 ∈ D) (few : D.length + 1 < 64) (hu : A.in1.units < cLine)
    (hs : s.heap = h0.push (newSet w)) (fin : ∀ s' : Shared, s'.gens = s.gens → s'.drawn = s.drawn → s'.os = s.os → SetSt P w h0 h0.objs.size ks s'.heap → R (.ok (.ret .none)) s') :
    codeAny (model P w) A (.builtin "set.update.loop" ⟨[.ref h0.objs.size, .ref (h0.push (newSet w)).objs.size], []⟩) R { s with heap := (h0.push (newSet w)).push { cls := .type "list_iterator", data := .fields #[.ref l, .int 0 0] } } := by
  have none_of : ∀ b, h0.objs.size ≤ b → h0.get? b = none := fun b hb => by
    cases q : h0.get? b with
    | none => rfl
    | some o => exact absurd (Heap.lt_size q) (Nat.not_lt.mpr hb)
  have hlS : l < h0.objs.size := by
    obtain ⟨o, ho, _⟩ := hl
    exact Heap.lt_size ho
  have hz : (h0.push (newSet w)).objs.size = h0.objs.size + 1 := Heap.size_push ..
  have hn : items.size = ks.length := by
    have q := congrArg List.length hit
    rwa [Array.length_toList, List.length_map] at q
  have hl1 : (h0.push (newSet w)).IsList l items := by
    obtain ⟨o, ho, r⟩ := hl
    exact ⟨o, Heap.get?_push_of_some _ ho, r⟩
  have W := (Walks.list (prog := P) (w := w) hh (h0.push (newSet w)).objs.size l (by rw [hz]; exact Nat.ne_of_lt (Nat.lt_succ_of_lt hlS)) items).toS
  rw [hn] at W
  refine set_loop (h0 := h0) (D := D) (ks := ks) W ?_ (fun i v hv => ?_) ht hD few (none_of _ (Nat.le_refl _)) (fun b hb => ?_) hu ks [] _ rfl ?_ ?_ fun s' mv T => ?_
  · rw [hz]
    simp only [List.mem_cons, List.not_mem_nil, or_false, not_or]
    exact ⟨Nat.ne_of_lt (Nat.lt_succ_self _), Nat.ne_of_gt hlS⟩
  · have hv : items[i]? = some v := hv
    have q : items.toList[i]? = some v := by rw [Array.getElem?_toList]; exact hv
    rw [hit, List.getElem?_map] at q
    cases hq : ks[i]? with
    | none => rw [hq] at q; cases q
    | some p =>
      rw [hq] at q
      exact ⟨p, rfl, (Option.some.inj q).symm⟩
  · rw [List.mem_singleton.mp hb, hz]
    exact none_of _ (Nat.le_succ _)
  · exact ⟨⟨_, Heap.get?_push_size _ rfl, rfl, rfl⟩, hl1.push _⟩
  · refine ⟨fun b o e => Heap.get?_push_of_some _ (Heap.get?_push_of_some _ e), [], #[], 0, _, setTR_fresh (Heap.get?_push_of_some _ (Heap.get?_push_size _ rfl)), fun p h => (by cases h), fun p h => (by cases h)⟩
  · exact fin s' mv.gens mv.drawn mv.os T
end
end DL
namespace DL
open PySem PySem.Spec PyProof.Rows L2
section
variable {P : Program} {w : World} {A : Around} {E : Value → Shared → Prop} {s : Shared}
set_option maxHeartbeats 3200000 in
/-- set(l), l a list of tuples of whole numbers, fewer than 63 of them unlike -/
theorem call_setN {l : Addr} {items : Array Value} {ks : List (Addr × List Int)} {D : List (List Int)} {Q : Value → Shared → Prop} (hh : A.handled = none) (hl : s.heap.IsList l items) (hit : items.toList = ks.map fun p => Value.ref p.1) (ht : ∀ p ∈ ks, IsT P w s.heap p.2 p.1) (hD : ∀ p ∈ ks, p.2 ∈ D) (few : D.length + 1 < 64) (hu : A.units + 3 < cLine)
    (q : ∀ h' tk, SetSt P w s.heap s.heap.objs.size ks h' → Q (.ref s.heap.objs.size) { s with heap := h', toks := tk }) : wpAny (model P w) A (call (.type "set") [.ref l]) Q E s := by
  obtain ⟨base, more, way⟩ := F.called_set.mro
  have fMade := F.called_set.made
  have fSub := F.called_set.sub
  have fNot := F.called_set.notType
  have fCan := F.called_set.canCreate
  have fSig := F.typeCall_set_1 (.ref l)
  refine wpAny_call (codeAny_of_tree ?_)
  show wpAny _ _ (callAny (.type "set") _) _ _ _
  refine wpAny_pure ⟨Code.quiet_builtin _ (by decide +kernel), codeAny_builtin F.entry_type_call ?_⟩
  rw [Around.under_plain (weight_type_call_type "set" [.ref l] []) rfl]
  repeat (any_goals (first | assumption | wp_step))
  refine codeAny_mono (code_set_led1 (.ref l) (E := E) (Q₁ := fun v s1 => v = .ref s.heap.objs.size ∧ s1 = { s with heap := s.heap.push (newSet w) }) ⟨rfl, rfl⟩) fun r s1 hr => ?_
  cases r with
  | error e => exact hr
  | ok fl =>
    cases fl with
    | ret v =>
      obtain ⟨rfl, rfl⟩ := hr
      have own : (s.heap.push (newSet w)).get? s.heap.objs.size = some (newSet w) := Heap.get?_push_size _ rfl
      have isSet : Shared.TypeIs { s with heap := s.heap.push (newSet w) } (.ref s.heap.objs.size) "set" := ⟨_, own, rfl⟩
      have fInit := F.called_set.init.lookup
      have fBind := F.called_set.init.bind (.ref s.heap.objs.size)
      repeat (any_goals (first | assumption | wp_step))
      refine codeAny_mono (codeAny_call_builtin (R := wants (fun r s2 => r = .none ∧ ∃ h' tk, s2 = { s with heap := h', toks := tk } ∧ SetSt P w s.heap s.heap.objs.size ks h') E) F.called_set.init.plain F.entry_set_init (check_set_init_1 isSet ?_)) fun r2 s2 hr2 => ?_
      · have fL1 := F.sub_list_set
        have fL2 := F.sub_list_frozenset
        have fNe : (Value.type "list" == Value.type "dict") = false := by decide
        obtain ⟨⟨lc, ld, lx, ls⟩, lo, lt, ln, ly⟩ := id hl
        simp only at lt ly
        subst lt ly
        have lo' : (s.heap.push (newSet w)).get? l = some { cls := .type "list", dict := ld, data := .seq items ln, slots := ls } := Heap.get?_push_of_some _ lo
        have lst : (s.heap.push (newSet w)).IsList l items := ⟨_, lo', rfl, ln, rfl⟩
        unfold Builtin.«set.__init__» noKeywords Builtin.Frozenset.updateFrom
        generalize hIter : pyIter = iter
        wp_walk
        subst hIter
        refine wpAny_pyIter_list lst (wpAny_bind (wpAny_runValue ?_))
        refine set_filled (s := { s with heap := s.heap.push (newSet w) }) (h0 := s.heap) (D := D) (ks := ks) (by simp [hh]) hl hit ht hD few (by simp; omega) rfl fun s' eg ed eo T => ?_
        obtain ⟨h', g', d', tk', os'⟩ := s'
        have eg : g' = s.gens := eg
        have ed : d' = s.drawn := ed
        have eo : os' = s.os := eo
        subst eg ed eo
        show wpAny _ _ _ _ _ _
        refine wpAny_pure ?_
        show wpAny _ _ (ret Value.none) _ _ _
        exact wpAny_pure ⟨rfl, h', tk', rfl, T⟩
      · cases r2 with
        | error e => exact hr2
        | ok fl2 =>
          cases fl2 with
          | ret r =>
            obtain ⟨rfl, h', tk, rfl, T⟩ := hr2
            repeat (any_goals (first | assumption | wp_step))
            exact q _ _ T
          | _ => exact hr2.elim
    | _ => exact hr.elim
end
end DL
namespace DL
open PySem PySem.Spec PyProof.Rows L2
/-! ### sorted(set(xs)), sorted(xs): tuples of whole numbers -/
theorem tup_keys {K : PySem.W.Frag} {H : Hp} : ∀ {tss : List (List Int)} {xs : List V}, RpAll K H xs (tss.map tupN) → ∃ ks : List (Addr × List Int), xs = ks.map (fun p => V.ref p.1) ∧ tss = ks.map (·.2) ∧ ∀ p ∈ ks, SqT K H p.1 (p.2.map V.int)
  | [], _, .nil => ⟨[], rfl, rfl, fun p h => (by cases h)⟩
  | ns :: tss, _, .cons h1 h2 => by
    obtain ⟨ks, e1, e2, hk⟩ := tup_keys h2
    cases h1 with
    | @tup a _ _ g1 g2 =>
      rw [dps_intsV g2] at g1
      refine ⟨(a, ns) :: ks, by rw [List.map_cons, ← e1], by rw [List.map_cons, ← e2], fun p hp => ?_⟩
      rcases List.mem_cons.mp hp with rfl | hp
      · exact g1
      · exact hk p hp
theorem key_rps {K : PySem.W.Frag} {H : Hp} : ∀ {ks : List (Addr × List Int)}, (∀ p ∈ ks, SqT K H p.1 (p.2.map V.int)) → RpAll K H (ks.map fun p => V.ref p.1) ((ks.map (·.2)).map tupN)
  | [], _ => .nil
  | p :: ks, h => .cons (.tup (h p List.mem_cons_self) (dps_ints p.2)) (key_rps fun y hy => h y (List.mem_cons_of_mem _ hy))
theorem lfs_tups : ∀ tss : List (List Int), lfs (tss.map tupN) = true
  | [] => rfl
  | ns :: tss => by
    rw [List.map_cons, lfs, lfs_tups tss, Bool.and_true]
    show lfs (ns.map .int) = true
    exact lfs_ints ns
section
variable {X : Cx} {ρ : DEnv} {a : Expr} {p p2 q pos : Pos}
def rSetN (K : PySem.W.Frag) (P : Program) (w : World) : List V → Hp → VK → Prop := fun xs H Q => ∃ (l : Addr) (ks : List (Addr × List Int)) (D : List (List Int)), xs = [V.ref l] ∧ SqL K H l (ks.map fun p => V.ref p.1) ∧ (∀ p ∈ ks, SqT K H p.1 (p.2.map V.int)) ∧ (∀ p ∈ ks, p.2 ∈ D) ∧ D.length + 1 < 64 ∧
  ∀ a L, H a = none → (∀ p ∈ L, p ∈ ks) → (∀ p ∈ ks, p.2 ∈ L.map (·.2)) → Q (.ref a) (upd H a (SetTO P w a L))
theorem cr_setN (hc : X.calm = true) (hu : X.A.units + 64 < cLine) : CallR X (.type "set") (rSetN X.K X.prog X.w) := fun pins s σ H xs us Q I r ⟨l, ks, D, ev, hl, hk, hD, few, q⟩ => by
  subst ev
  rw [Vals.ref1 r]
  obtain ⟨its, rv, pl, hz⟩ := I.list hl
  refine call_setN (P := X.prog) (w := X.w) (ks := ks) (I.ok.hd hc) pl.isList (by simpa using refs_of_vals rv) (fun p hp => I.isT (hk p hp)) hD few (by omega) fun h' tk T => ?_
  obtain ⟨L, es, ep, t, R, g1, g2⟩ := T.own
  exact ⟨.ref s.heap.objs.size, upd H s.heap.objs.size (SetTO X.prog X.w s.heap.objs.size L), I.laid (t' := tk) T.keep (Nat.le_refl _) (setTO_new R.t0), rfl, q _ L (I.hok.fresh (Nat.le_refl _)) g1 g2⟩
/-- sorted(set(a)) -/
theorem rd_sortSet {dd : Nat} {B : Int} {Q : DE → Prop} (hc : X.calm = true) (hu : X.A.units + 65 < cLine) (hm : X.mg "sorted" = none) (hm2 : X.mg "set" = none) (hd : 1 ≤ dd)
    (h : RV X a ρ fun d => ∃ (tss D : List (List Int)), d = tupsN tss ∧ (∀ ns ∈ tss, ns ∈ D) ∧ D.length + 1 < 64 ∧ (∀ ns ∈ tss, ns.length = dd ∧ TS.Bd B ns) ∧ ∀ tss' : List (List Int), tss'.Nodup → (∀ ns, ns ∈ tss' ↔ ns ∈ tss) → tss'.Pairwise (fun x y => TS.code B x ≤ TS.code B y) → Q (.ow (tupsN tss')))
    (hg : Gl X "sorted" := by rfl) (hg2 : Gl X "set" := by rfl) (na : starEach [a] X.env = (false, eval a X.env) :: starEach [] X.env := by rfl)
    (na2 : starEach [.Call (.Name "set" p2) [a] [] q] X.env = (false, eval (.Call (.Name "set" p2) [a] [] q) X.env) :: starEach [] X.env := by rfl) : RD X (.Call (.Name "sorted" p) [.Call (.Name "set" p2) [a] [] q] [] pos) ρ Q := fun U σ H m E => by
  refine we_of (pe_callB (cr_sortedT hc) hg hm (by decide +kernel) (pa_cons (pe_callTy (cr_setN hc (by omega)) hg2 hm2 (by decide +kernel) (pa_cons pe_w pa_nil na) (by decide) (by decide) na rfl) pa_nil na2) (by decide) (by decide) na2 rfl) ?_
  refine we_mono (h U σ H m E) fun v H1 ⟨e1, d, pd, tss, D, ed, hD, few, hb, qq⟩ => ?_
  subst ed
  cases pd with
  | lst g1 g2 =>
    obtain ⟨ks, k1, k2, k3⟩ := tup_keys g2
    rw [k1] at g1
    refine ⟨_, ks, D, rfl, g1, k3, fun p hp => hD _ (by rw [k2]; exact List.mem_map.mpr ⟨p, hp, rfl⟩), few, fun b L hb0 l1 l2 => ?_⟩
    have s1 := same_new (o := SetTO X.prog X.w b L) hb0
    refine ⟨b, L, dd, B, rfl, upd_same, fun p hp => seqT s1 (k3 p (l1 p hp)), hd, fun p hp => hb _ (by rw [k2]; exact List.mem_map.mpr ⟨p, l1 p hp, rfl⟩), fun L' r pm nd _ pw hr => ?_⟩
    have s2 := same_new (o := HO.lst (L'.map fun q => V.ref q.1)) hr
    have hL' : ∀ p ∈ L', p ∈ ks := fun p hp => l1 p (pm.mem_iff.mp hp)
    refine ⟨e1.trans (s1.trans s2), .ow (tupsN (L'.map (·.2))), ?_, qq _ nd (fun ns => ?_) (List.pairwise_map.mpr pw)⟩
    · obtain ⟨S, o1, o2, o3⟩ := ow_new (K := X.K) hr (key_rps fun p hp => seqT s1 (k3 p (hL' p hp))) (lfs_tups _)
      exact ⟨S, o1, o2, fun x hx => (e1.trans s1).free (o3 x hx)⟩
    · rw [k2]
      constructor
      · intro hx
        obtain ⟨p, hp, rfl⟩ := List.mem_map.mp hx
        exact List.mem_map.mpr ⟨p, hL' p hp, rfl⟩
      · intro hx
        obtain ⟨p, hp, rfl⟩ := List.mem_map.mp hx
        obtain ⟨y, hy, ey⟩ := List.mem_map.mp (l2 p hp)
        exact List.mem_map.mpr ⟨y, pm.mem_iff.mpr hy, ey⟩
/-- sorted(a) -/
theorem rd_sortN {dd : Nat} {B : Int} {Q : DE → Prop} (hm : X.mg "sorted" = none) (hd : 1 ≤ dd) (h : RA X [a] ρ fun ds => ∃ tss : List (List Int), ds = [tupsN tss] ∧ (∀ ns ∈ tss, ns.length = dd ∧ TS.Bd B ns) ∧ ∀ tss' : List (List Int), tss'.Perm tss → tss'.Pairwise (fun x y => TS.code B x ≤ TS.code B y) → Q (.ow (tupsN tss')))
    (hg : Gl X "sorted" := by rfl) (he : starEach [a] X.env = (false, eval a X.env) :: starEach [] X.env := by rfl) : RD X (.Call (.Name "sorted" p) [a] [] pos) ρ Q := by
  refine rd_callB (cr_sortN (B := B) hd) hm (by decide +kernel) ?_ hg (by decide) (by decide) he rfl
  intro U σ H m E
  refine wa_mono (h U σ H m E) fun vs H1 ⟨e1, ds, pp, tss, ed, hb, q⟩ => ⟨e1, ds, pp, fun U σ H H1 vs m e1 E pp => ?_⟩
  subst ed
  obtain ⟨v, rfl, h1⟩ := rps1 pp
  cases h1 with
  | lst g1 g2 =>
    refine ⟨_, _, tss, rfl, g1, g2, hb, fun ys tss' r pm pw rp hr => ⟨e1.trans (same_new hr), .ow (tupsN tss'), ?_, q tss' pm pw⟩⟩
    obtain ⟨S, s1, s2, s3⟩ := ow_new (K := X.K) hr rp (lfs_tups _)
    exact ⟨S, s1, s2, fun a z => e1.free (s3 a z)⟩
end
end DL
namespace DL
open PySem PySem.Spec PyProof.Rows L2
/-! ### o.extend(e): plain items -/
theorem owns_appF {K : PySem.W.Frag} {H : Hp} : ∀ {ds : List PyData} {vs : List V} {S : List Addr} {es : List PyData} {zs : List V}, OwnAll K H vs ds S → RpAll K H zs es → lfs es = true → OwnAll K H (vs ++ zs) (ds ++ es) S
  | [], _, _, _, _, .nil, h, l => owns_lf h l
  | _ :: _, _, _, _, _, .cons h1 h2, h, l => .cons h1 (owns_appF h2 h l)
section
variable {X : Cx} {ρ : DEnv} {D : DEnds} {o e : Expr} {pos apos cpos : Pos}
theorem s_extendF (h : RD X o ρ fun oo => ∃ j p ds, oo = .al j p ∧ dat ρ oo = some (.list ds) ∧ RD X e ρ fun eo => ∃ es, eo = .ow (.list es) ∧ lfs es = true ∧ ds.length + es.length ≤ sizeLine ∧ D.nx (modE ρ j p (.list (ds ++ es))))
    (hbase : attributeBase o "extend" X.env (eval o X.env) = eval o X.env := by rfl)
    (hfew : ((backTo cpos (starEach (e :: []) X.env)).all (fun x => !x.1) && (backToKw cpos (keywordEach [] X.env)).all (fun x => x.1.isSome) && decide ((e :: []).length + ([] : List Keyword).length + (if ([] : List Keyword).isEmpty then 0 else 1) < 30)) = true := by rfl)
    (hline : (apos.endLine == cpos.line) = true := by rfl) (hst : starEach (e :: []) X.env = (false, eval e X.env) :: starEach [] X.env := by rfl) (hplain : (backTo cpos (starEach [] X.env)).any (·.1) = false := by rfl)
    (hs : swapsWith (.Call (.Attribute o "extend" apos) [e] [] cpos) none pos.line X.env = pure false := by rfl) : S1 X (.Expr (.Call (.Attribute o "extend" apos) [e] [] cpos) pos) ρ D := fun B W σ H hW ⟨F, s⟩ => by
  refine ws_of (ps_expr (pe_bm PySem.F.plainAttrs_list PySem.F.slot_list_extend PySem.F.type_list_extend mt_extend pe_w (pa_cons pe_w pa_nil hst) hbase hfew hline hst hplain) hs) ?_
  refine we_mono (h _ σ H (s.mut hW) s.env) fun v H1 ⟨e1, oo, r, j, p, ds, eo, hd, h2⟩ => ?_
  subst eo
  obtain ⟨a, w, d0, ev, hj, hσ, hat⟩ := st_place s e1 r hd
  subst ev
  obtain ⟨vs0, _, ha0, _⟩ := st_mod0 s e1 hj hσ hat
  refine ⟨.inl ⟨rfl, _, .inl (.inl ha0)⟩, we_mono (h2 _ σ H1 ((s.mono e1).mut hW) (s.mono e1).env) fun u H2 ⟨e2, oe, re, es, eoe, hl, hz, q⟩ => ?_⟩
  subst eoe
  obtain ⟨S, oS, _, _⟩ := re
  obtain ⟨b, zs, S2, eb, hb, hO2, _⟩ := own_list oS
  subst eb
  obtain ⟨vs, Sa, ha, hO, nSa, put⟩ := st_mod0 s (e1.trans e2) hj hσ (at_same e2 hat)
  have hp2 := owns_dp _ _ _ hO2
  have l1 := owns_len hO
  have l2 := dps_len hp2
  refine ⟨a, b, vs, zs, rfl, rfl, ha, hb, by omega, _, ?_, q⟩
  exact put _ _ Sa (owns_appF hO hp2 hl) nSa fun x hx => .inl hx
end
end DL
namespace DL
open PySem PySem.Spec PyProof.Rows L2
/-! ### who would rather have what -/
def wishRow (a : Int) (row : List Rat) (full : List Int) : Nat → List (List Int)
  | 0 => []
  | k + 1 => wishRow a row full k ++ match full[k]? with
    | some x => if 0 < leftAt row x then (full.take k).map fun b => [a, b, x] else []
    | none => []
def wishAll (n : Nat) (os : List (List Int)) (sh : List (List Rat)) : Nat → List (List Int)
  | 0 => []
  | i + 1 => wishAll n os sh i ++ wishRow (i : Int) (sh.getD i []) (fullO n (os.getD i [])) (fullO n (os.getD i [])).length
theorem wishRow_succ {a : Int} {row : List Rat} {full : List Int} {k : Nat} {x : Int} (h : full[k]? = some x) : wishRow a row full (k + 1) = wishRow a row full k ++ if 0 < leftAt row x then (full.take k).map (fun b => [a, b, x]) else [] := by
  rw [wishRow, h]
theorem wishRow_mem {a : Int} {row : List Rat} {full : List Int} : ∀ {k : Nat} {t : List Int}, t ∈ wishRow a row full k → ∃ b x, t = [a, b, x] ∧ b ∈ full ∧ x ∈ full
  | 0, t, h => by cases h
  | k + 1, t, h => by
    rw [wishRow] at h
    rcases List.mem_append.mp h with h | h
    · exact wishRow_mem h
    · cases e : full[k]? with
      | none => rw [e] at h; cases h
      | some x =>
        rw [e] at h
        replace h : t ∈ if 0 < leftAt row x then (full.take k).map (fun b => [a, b, x]) else [] := h
        by_cases hp : 0 < leftAt row x
        · rw [if_pos hp] at h
          obtain ⟨b, hb, rfl⟩ := List.mem_map.mp h
          exact ⟨b, x, rfl, List.mem_of_mem_take hb, List.mem_of_getElem? e⟩
        · rw [if_neg hp] at h
          cases h
theorem wishRow_len {a : Int} {row : List Rat} {full : List Int} {m : Nat} (hm : full.length ≤ m) : ∀ k, (wishRow a row full k).length ≤ m * k
  | 0 => Nat.zero_le _
  | k + 1 => by
    have ih := wishRow_len (a := a) (row := row) hm k
    rw [wishRow, List.length_append, Nat.mul_succ]
    have : (match full[k]? with
      | some x => if 0 < leftAt row x then (full.take k).map (fun b => [a, b, x]) else []
      | none => ([] : List (List Int))).length ≤ m := by
      split
      · split
        · rw [List.length_map, List.length_take]
          omega
        · exact Nat.zero_le _
      · exact Nat.zero_le _
    omega
theorem wishAll_len {n : Nat} {os : List (List Int)} {sh : List (List Rat)} {m : Nat} (hm : ∀ i, (fullO n (os.getD i [])).length ≤ m) : ∀ i, (wishAll n os sh i).length ≤ m * m * i
  | 0 => Nat.zero_le _
  | i + 1 => by
    have ih := wishAll_len (sh := sh) hm i
    have h1 := wishRow_len (a := (i : Int)) (row := sh.getD i []) (hm i) (fullO n (os.getD i [])).length
    have h2 := Nat.mul_le_mul_left m (hm i)
    rw [wishAll, List.length_append, Nat.mul_succ]
    omega
/-- asker, better, one: such a wish -/
def Wish (n : Nat) (os : List (List Int)) (sh : List (List Rat)) (t : List Int) : Prop := ∃ (i : Nat) (b x : Int), t = [(i : Int), b, x] ∧ i < sh.length ∧ b ∈ fullO n (os.getD i []) ∧ x ∈ fullO n (os.getD i [])
theorem wishAll_mem {n : Nat} {os : List (List Int)} {sh : List (List Rat)} : ∀ {k : Nat} {t : List Int}, k ≤ sh.length → t ∈ wishAll n os sh k → Wish n os sh t
  | 0, _, _, h => by cases h
  | k + 1, t, hk, h => by
    rw [wishAll] at h
    rcases List.mem_append.mp h with h | h
    · exact wishAll_mem (Nat.le_of_succ_le hk) h
    · obtain ⟨b, x, rfl, hb, hx⟩ := wishRow_mem h
      exact ⟨k, b, x, rfl, hk, hb, hx⟩
/-! the sorted list is one -/
def sortT (L : List (List Int)) : List (List Int) := L.mergeSort fun x y => decide (TS.code 64 x ≤ TS.code 64 y)
theorem sortT_perm (L : List (List Int)) : (sortT L).Perm L := List.mergeSort_perm ..
theorem sortT_sorted (L : List (List Int)) : (sortT L).Pairwise fun x y => TS.code 64 x ≤ TS.code 64 y := by
  have h := List.pairwise_mergeSort (le := fun x y : List Int => decide (TS.code 64 x ≤ TS.code 64 y)) (fun a b c h1 h2 => decide_eq_true (Int.le_trans (of_decide_eq_true h1) (of_decide_eq_true h2))) (fun a b => by
    rcases Int.le_total (TS.code 64 a) (TS.code 64 b) with z | z
    · rw [decide_eq_true z]; rfl
    · rw [decide_eq_true z, Bool.or_true]) L
  exact List.Pairwise.imp (fun h => of_decide_eq_true h) h
theorem map_inj_on {α β : Type} {f : α → β} : ∀ {l m : List α}, (∀ x ∈ l, ∀ y ∈ m, f x = f y → x = y) → l.map f = m.map f → l = m
  | [], [], _, _ => rfl
  | [], _ :: _, _, h => by cases h
  | _ :: _, [], _, h => by cases h
  | x :: l, y :: m, hi, h => by
    obtain ⟨h1, h2⟩ := List.cons.inj h
    rw [hi x List.mem_cons_self y List.mem_cons_self h1, map_inj_on (fun a ha b hb => hi a (List.mem_cons_of_mem _ ha) b (List.mem_cons_of_mem _ hb)) h2]
theorem code3 (a b c : Int) : TS.code 64 [a, b, c] = a * 4096 + (b * 64 + c) := by
  show a * 64 ^ 2 + (b * 64 ^ 1 + (c * 64 ^ 0 + 0)) = _
  rw [show (64 : Int) ^ 2 = 4096 by decide, show (64 : Int) ^ 1 = 64 by decide, show (64 : Int) ^ 0 = 1 by decide]
  omega
theorem code3_inj {x y : List Int} (hx : x.length = 3 ∧ TS.Bd 64 x) (hy : y.length = 3 ∧ TS.Bd 64 y) (h : TS.code 64 x = TS.code 64 y) : x = y := by
  obtain ⟨l1, b1⟩ := hx
  obtain ⟨l2, b2⟩ := hy
  match x, y, l1, l2 with
  | [a, b, c], [a', b', c'], _, _ =>
    rw [code3, code3] at h
    have h1 := b1 a (by simp)
    have h2 := b1 b (by simp)
    have h3 := b1 c (by simp)
    have g1 := b2 a' (by simp)
    have g2 := b2 b' (by simp)
    have g3 := b2 c' (by simp)
    have e1 : a = a' := by omega
    have e2 : b = b' := by omega
    have e3 : c = c' := by omega
    rw [e1, e2, e3]
theorem sortT_uniq {L tss : List (List Int)} (hb : ∀ t ∈ L, t.length = 3 ∧ TS.Bd 64 t) (p : tss.Perm L) (s : tss.Pairwise fun x y => TS.code 64 x ≤ TS.code 64 y) : tss = sortT L := by
  have e1 := sortQ_uniq (xs := L.map (TS.code 64)) (p.map _) (List.pairwise_map.mpr s)
  have e2 := sortQ_uniq (xs := L.map (TS.code 64)) ((sortT_perm L).map _) (List.pairwise_map.mpr (sortT_sorted L))
  exact map_inj_on (fun x hx y hy e => code3_inj (hb x (p.mem_iff.mp hx)) (hb y ((sortT_perm L).mem_iff.mp hy)) e) (e1.trans e2.symm)
end DL
namespace DL
open PySem PySem.Spec PyProof.Rows L2
/-! ### where a thing stands in the full order, without the full order -/
def placeQ (o : List Int) (n : Nat) (x : Int) : Int := if x ∈ o then (o.idxOf x : Nat) else if x = (n : Int) then (o.length : Nat) else (o.length : Nat) + 1 + x
theorem idx_rise : ∀ {o : List Int}, o.Nodup → o.Pairwise fun a b => o.idxOf a < o.idxOf b := fun {o} hn => by
  refine List.pairwise_iff_getElem.mpr fun i j hi hj hij => ?_
  rw [List.Nodup.idxOf_getElem hn, List.Nodup.idxOf_getElem hn]
  exact hij
theorem place_rise {n : Nat} {o : List Int} (ho : OrdQ n o) : (fullO n o).Pairwise fun a b => placeQ o n a < placeQ o n b := by
  unfold fullO
  have hno : (n : Int) ∉ o := fun h => by have := (ho.rg _ h).2; omega
  refine List.pairwise_append.mpr ⟨List.pairwise_append.mpr ⟨?_, List.pairwise_singleton _ _, fun a ha b hb => ?_⟩, ?_, fun a ha b hb => ?_⟩
  · refine List.Pairwise.imp_of_mem (fun {a b} ha hb h => ?_) (idx_rise ho.nd)
    unfold placeQ
    rw [if_pos ha, if_pos hb]
    omega
  · rw [List.mem_singleton.mp hb]
    unfold placeQ
    rw [if_pos ha, if_neg hno, if_pos rfl]
    have := List.idxOf_lt_length_of_mem ha
    omega
  · have hr : ((rng n).filter fun x => decide (x ∉ o)).Pairwise (· < ·) := by
      refine List.Pairwise.filter _ ?_
      unfold rng
      rw [List.pairwise_map]
      exact List.Pairwise.imp (fun h => by omega) List.pairwise_lt_range
    refine List.Pairwise.imp_of_mem (fun {a b} ha hb h => ?_) hr
    obtain ⟨ha1, ha2⟩ := List.mem_filter.mp ha
    obtain ⟨hb1, hb2⟩ := List.mem_filter.mp hb
    have ha2 := of_decide_eq_true ha2
    have hb2 := of_decide_eq_true hb2
    obtain ⟨i, hi, rfl⟩ := List.mem_map.mp ha1
    obtain ⟨j, hj, rfl⟩ := List.mem_map.mp hb1
    have hi := List.mem_range.mp hi
    have hj := List.mem_range.mp hj
    unfold placeQ
    rw [if_neg ha2, if_neg hb2, if_neg (by omega), if_neg (by omega)]
    omega
  · obtain ⟨hb1, hb2⟩ := List.mem_filter.mp hb
    have hb2 := of_decide_eq_true hb2
    obtain ⟨j, hj, rfl⟩ := List.mem_map.mp hb1
    have hj := List.mem_range.mp hj
    have hp : placeQ o n (0 + (j : Int)) = (o.length : Nat) + 1 + (0 + (j : Int)) := by
      unfold placeQ
      rw [if_neg hb2, if_neg (by omega)]
    rw [hp]
    rcases List.mem_append.mp ha with h | h
    · unfold placeQ
      rw [if_pos h]
      have := List.idxOf_lt_length_of_mem h
      omega
    · rw [List.mem_singleton.mp h]
      unfold placeQ
      rw [if_neg hno, if_pos rfl]
      omega
theorem take_place {n : Nat} {o : List Int} (ho : OrdQ n o) {k : Nat} {x b : Int} (h : (fullO n o)[k]? = some x) : b ∈ (fullO n o).take k ↔ b ∈ fullO n o ∧ placeQ o n b < placeQ o n x := by
  have hr := place_rise ho
  obtain ⟨hk, ex⟩ := List.getElem?_eq_some_iff.mp h
  have hp := List.pairwise_iff_getElem.mp hr
  constructor
  · intro hb
    obtain ⟨i, hi, e⟩ := List.getElem_of_mem hb
    rw [List.length_take] at hi
    rw [List.getElem_take] at e
    have := hp i k (by omega) hk (by omega)
    rw [e, ex] at this
    exact ⟨List.mem_of_mem_take hb, this⟩
  · rintro ⟨hb, hlt⟩
    obtain ⟨i, hi, e⟩ := List.getElem_of_mem hb
    by_cases hik : i < k
    · rw [← e]
      exact List.mem_take_iff_getElem.mpr ⟨i, by omega, rfl⟩
    · exfalso
      rcases Nat.lt_or_eq_of_le (Nat.le_of_not_lt hik) with z | z
      · have := hp k i hk hi z
        rw [e, ex] at this
        omega
      · subst z
        rw [ex] at e
        rw [e] at hlt
        omega
/-- asker i has x and would have b -/
def wantB (n : Nat) (os : List (List Int)) (sh : List (List Rat)) (b x : Int) (i : Nat) : Bool := decide (0 < leftAt (sh.getD i []) x) && decide (placeQ (os.getD i []) n b < placeQ (os.getD i []) n x)
theorem wishRow_iff {a : Int} {row : List Rat} {full : List Int} : ∀ {k : Nat} {t : List Int}, t ∈ wishRow a row full k ↔ ∃ (j : Nat) (x b : Int), j < k ∧ full[j]? = some x ∧ 0 < leftAt row x ∧ b ∈ full.take j ∧ t = [a, b, x]
  | 0, t => ⟨fun h => (by cases h), fun ⟨j, _, _, h, _⟩ => absurd h (Nat.not_lt_zero _)⟩
  | k + 1, t => by
    rw [wishRow, List.mem_append, wishRow_iff]
    constructor
    · rintro (⟨j, x, b, h1, h2⟩ | h)
      · exact ⟨j, x, b, Nat.lt_succ_of_lt h1, h2⟩
      · cases e : full[k]? with
        | none => rw [e] at h; cases h
        | some x =>
          rw [e] at h
          replace h : t ∈ if 0 < leftAt row x then (full.take k).map (fun b => [a, b, x]) else [] := h
          by_cases hp : 0 < leftAt row x
          · rw [if_pos hp] at h
            obtain ⟨b, hb, rfl⟩ := List.mem_map.mp h
            exact ⟨k, x, b, Nat.lt_succ_self _, e, hp, hb, rfl⟩
          · rw [if_neg hp] at h
            cases h
    · rintro ⟨j, x, b, h1, h2, h3, h4, h5⟩
      rcases Nat.lt_or_eq_of_le (Nat.le_of_lt_succ h1) with z | z
      · exact .inl ⟨j, x, b, z, h2, h3, h4, h5⟩
      · subst z
        refine .inr ?_
        rw [h2]
        show t ∈ if 0 < leftAt row x then (full.take j).map (fun b => [a, b, x]) else []
        rw [if_pos h3, h5]
        exact List.mem_map.mpr ⟨b, h4, rfl⟩
theorem wishAll_iff {n : Nat} {os : List (List Int)} {sh : List (List Rat)} : ∀ {k : Nat} {t : List Int}, t ∈ wishAll n os sh k ↔ ∃ i < k, t ∈ wishRow (i : Int) (sh.getD i []) (fullO n (os.getD i [])) (fullO n (os.getD i [])).length
  | 0, t => ⟨fun h => (by cases h), fun ⟨_, h, _⟩ => absurd h (Nat.not_lt_zero _)⟩
  | k + 1, t => by
    rw [wishAll, List.mem_append, wishAll_iff]
    constructor
    · rintro (⟨i, h1, h2⟩ | h)
      · exact ⟨i, Nat.lt_succ_of_lt h1, h2⟩
      · exact ⟨k, Nat.lt_succ_self _, h⟩
    · rintro ⟨i, h1, h2⟩
      rcases Nat.lt_or_eq_of_le (Nat.le_of_lt_succ h1) with z | z
      · exact .inl ⟨i, z, h2⟩
      · subst z
        exact .inr h2
/-- the pairs of the wishes, told by places -/
theorem pairs_iff {n m : Nat} {os : List (List Int)} {sh : List (List Rat)} (ho : ∀ i < m, OrdQ n (os.getD i [])) {t : List Int} : t ∈ ((wishAll n os sh m).map fun t => [t.getD 1 0, t.getD 2 0]) ↔ ∃ b x : Int, t = [b, x] ∧ (0 ≤ b ∧ b ≤ (n : Int)) ∧ (0 ≤ x ∧ x ≤ (n : Int)) ∧ ∃ i < m, wantB n os sh b x i = true := by
  constructor
  · intro h
    obtain ⟨u, hu, rfl⟩ := List.mem_map.mp h
    obtain ⟨i, hi, hu⟩ := wishAll_iff.mp hu
    obtain ⟨j, x, b, h1, h2, h3, h4, rfl⟩ := wishRow_iff.mp hu
    have oi := ho i hi
    obtain ⟨h5, h6⟩ := (take_place oi h2).mp h4
    refine ⟨b, x, rfl, (fullO_mem oi.rg).mp h5, (fullO_mem oi.rg).mp (List.mem_of_getElem? h2), i, hi, ?_⟩
    unfold wantB
    rw [decide_eq_true h3, decide_eq_true h6]
    rfl
  · rintro ⟨b, x, rfl, hb, hx, i, hi, hw⟩
    have oi := ho i hi
    unfold wantB at hw
    rw [Bool.and_eq_true] at hw
    obtain ⟨j, hj⟩ := List.mem_iff_getElem?.mp ((fullO_mem oi.rg).mpr hx)
    refine List.mem_map.mpr ⟨[(i : Int), b, x], wishAll_iff.mpr ⟨i, hi, wishRow_iff.mpr ⟨j, x, b, (List.getElem?_eq_some_iff.mp hj).1, hj, of_decide_eq_true hw.1, ?_, rfl⟩⟩, rfl⟩
    exact (take_place oi hj).mpr ⟨(fullO_mem oi.rg).mpr hb, of_decide_eq_true hw.2⟩
end DL
namespace DL
open PySem PySem.Spec PyProof.Rows L2
/-! ### what is due -/
def rowP (n b : Nat) (j : Nat) : List (List Int) := (List.range j).map fun (x : Nat) => [(b : Int), (x : Int)]
def allPk (n : Nat) : Nat → List (List Int)
  | 0 => []
  | b + 1 => allPk n b ++ rowP n b (n + 1)
def dueB (n : Nat) (os : List (List Int)) (sh : List (List Rat)) (t : List Int) : Bool := (List.range os.length).any fun i => wantB n os sh (t.getD 0 0) (t.getD 1 0) i
def dueQ (n : Nat) (os : List (List Int)) (sh : List (List Rat)) : List (List Int) := (allPk n (n + 1)).filter (dueB n os sh)
theorem allPk_mem {n : Nat} : ∀ {k : Nat} {t : List Int}, t ∈ allPk n k ↔ ∃ b x : Nat, t = [(b : Int), (x : Int)] ∧ b < k ∧ x < n + 1
  | 0, t => ⟨fun h => (by cases h), fun ⟨_, _, _, h, _⟩ => absurd h (Nat.not_lt_zero _)⟩
  | k + 1, t => by
    rw [allPk, List.mem_append, allPk_mem]
    constructor
    · rintro (⟨b, x, e, h1, h2⟩ | h)
      · exact ⟨b, x, e, Nat.lt_succ_of_lt h1, h2⟩
      · obtain ⟨x, hx, rfl⟩ := List.mem_map.mp h
        exact ⟨k, x, rfl, Nat.lt_succ_self _, List.mem_range.mp hx⟩
    · rintro ⟨b, x, rfl, h1, h2⟩
      rcases Nat.lt_or_eq_of_le (Nat.le_of_lt_succ h1) with z | z
      · exact .inl ⟨b, x, rfl, z, h2⟩
      · subst z
        exact .inr (List.mem_map.mpr ⟨x, List.mem_range.mpr h2, rfl⟩)
theorem code2 (a b : Int) : TS.code 64 [a, b] = a * 64 + b := by
  show a * 64 ^ 1 + (b * 64 ^ 0 + 0) = _
  rw [show (64 : Int) ^ 1 = 64 by decide, show (64 : Int) ^ 0 = 1 by decide]
  omega
theorem rowP_rise {n b : Nat} : ∀ j, (rowP n b j).Pairwise fun x y => TS.code 64 x < TS.code 64 y := fun j => by
  unfold rowP
  rw [List.pairwise_map]
  exact List.Pairwise.imp (fun h => by rw [code2, code2]; omega) List.pairwise_lt_range
theorem allPk_rise {n : Nat} (hn : n ≤ 60) : ∀ k, (allPk n k).Pairwise fun x y => TS.code 64 x < TS.code 64 y
  | 0 => .nil
  | k + 1 => by
    rw [allPk]
    refine List.pairwise_append.mpr ⟨allPk_rise hn k, rowP_rise _, fun x hx y hy => ?_⟩
    obtain ⟨b, z, rfl, h1, h2⟩ := allPk_mem.mp hx
    obtain ⟨z2, hz2, rfl⟩ := List.mem_map.mp hy
    rw [code2, code2]
    omega
/-- the strictly rising list with these members is one -/
theorem due_uniq {n : Nat} (hn : n ≤ 60) {os : List (List Int)} {sh : List (List Rat)} {tss : List (List Int)} (nd : tss.Nodup) (pw : tss.Pairwise fun x y => TS.code 64 x ≤ TS.code 64 y)
    (mem : ∀ t, t ∈ tss ↔ ∃ b x : Int, t = [b, x] ∧ (0 ≤ b ∧ b ≤ (n : Int)) ∧ (0 ≤ x ∧ x ≤ (n : Int)) ∧ ∃ i < os.length, wantB n os sh b x i = true) : tss = dueQ n os sh := by
  have hr := List.Pairwise.filter (dueB n os sh) (allPk_rise hn (n + 1))
  have nd2 : (dueQ n os sh).Nodup := List.Pairwise.imp (fun {x y} h e => by rw [e] at h; omega) hr
  have hm : ∀ t, t ∈ tss ↔ t ∈ dueQ n os sh := fun t => by
    rw [mem, dueQ, List.mem_filter, allPk_mem]
    constructor
    · rintro ⟨b, x, rfl, hb, hx, i, hi, hw⟩
      refine ⟨⟨b.toNat, x.toNat, by rw [Int.toNat_of_nonneg hb.1, Int.toNat_of_nonneg hx.1], by omega, by omega⟩, List.any_eq_true.mpr ⟨i, List.mem_range.mpr hi, hw⟩⟩
    · rintro ⟨⟨b, x, rfl, h1, h2⟩, h⟩
      obtain ⟨i, hi, hw⟩ := List.any_eq_true.mp h
      exact ⟨b, x, rfl, by omega, by omega, i, List.mem_range.mp hi, hw⟩
  have p := (List.perm_ext_iff_of_nodup nd nd2).mpr hm
  have hs2 : (dueQ n os sh).Pairwise fun x y => TS.code 64 x ≤ TS.code 64 y := List.Pairwise.imp (fun h => Int.le_of_lt h) hr
  have e1 := sortQ_uniq (xs := (dueQ n os sh).map (TS.code 64)) (p.map _) (List.pairwise_map.mpr pw)
  have e2 := sortQ_uniq (xs := (dueQ n os sh).map (TS.code 64)) (List.Perm.refl _) (List.pairwise_map.mpr hs2)
  refine map_inj_on (fun x hx y hy e => ?_) (e1.trans e2.symm)
  obtain ⟨b, z, rfl, h1, h2⟩ := allPk_mem.mp (List.mem_filter.mp ((hm x).mp hx)).1
  obtain ⟨b', z', rfl, h3, h4⟩ := allPk_mem.mp (List.mem_filter.mp hy).1
  rw [code2, code2] at e
  have e1 : b = b' := by omega
  have e2 : z = z' := by omega
  rw [e1, e2]
end DL

namespace K22
open PySem PySem.Spec PyProof.Rows L2 DL
local macro_rules | `(tactic| walk_at "cond") => `(tactic| first | exact trivial | assumption | omega | exact cdiv_s (by omega) (by omega) | exact cmul_s (by omega) (by omega) | decide | (refine ⟨?_, ?_⟩ <;> omega))
local macro_rules | `(tactic| walk_at "num") => `(tactic| first | rfl | decide +kernel)
local macro_rules | `(tactic| walk_at "size") => `(tactic| (simp only [sizeLine, List.length_map, List.length_range, List.length_take, List.length_drop, List.length_reverse, List.length_nil, List.length_cons, List.length_append]; omega))
local macro_rules | `(tactic| walk_at "tst") => `(tactic| first | rfl | exact decide_eq_false (by omega) | exact decide_eq_true (by omega) | (exfalso; simp only [decide_eq_false_iff_not, decide_eq_true_eq] at *; omega) | (simp only [decide_eq_false_iff_not, decide_eq_true_eq, Bool.not_true, Bool.not_false] at *; omega))
local macro_rules | `(tactic| walk_at "same") => `(tactic| first | rfl | assumption)
local macro_rules | `(tactic| walk_at "pl") => `(tactic| first | exact pl_int | exact pl_bool | exact pl_ints | exact pl_fr | assumption)
local macro_rules | `(tactic| walk_at "fin") => `(tactic| first | rfl | exact ⟨_, rfl, rfl⟩ | exact ⟨_, rfl, .inr ⟨rfl, rfl⟩⟩)
local macro_rules | `(tactic| walk_at "ret") => `(tactic| first | exact .inr ⟨rfl, rfl⟩ | exact .inl rfl)
local macro_rules | `(tactic| walk_at "env") => `(tactic| first | rfl | (simp only [numsD, List.map_append, List.map_cons, List.map_nil, List.map_map, Function.comp_def]; rfl))
local macro_rules | `(tactic| walk_at "nrm") => `(tactic| ((try simp only [setVs_nil, setVs_cons, setV_eq, sets_nil, sets_cons, puts_nil, puts_cons, unVs_nil, unVs_cons, unV_eq, modE, modAt_nil, modAt, Tgt.all, dmap_cons, dmap_nil, pmap_cons, pmap_nil, dapp_cons, dapp_nil, dset_zero, dset_succ, List.length_cons, List.length_nil, List.replicate_succ, List.replicate_zero, List.getElem?_cons_zero, List.getElem?_cons_succ, reduceIte, Nat.reduceEqDiff, Nat.succ_ne_zero, kil_un, kil_fz, kil_ow, kil_vl, kil_sh, kil_al, kilP_un, kilP_fz, kilP_ow, kilP_vl, kilP_sh, kilP_al, kil_rt, kil_ob, kil_im, kilP_rt, kilP_ob, kilP_im, backE_eq, dropL_eq, slotsOf_nil, slotsOf_some, slotsOf_none, putB_nil, putB_some, putB_none, dfold_cons, dfold_nil, outE_d, outE_o, outE_nw, outE_nb, kilL_un, kilL_fz, kilL_ow, kilL_vl, kilL_sh, kilL_ob, kilL_rt, kilL_im, kilL_al, ghosts_nil, ghosts_fz, ghosts_ow, ghosts_ob, Nat.reduceAdd, Nat.reduceSub, Nat.lt_irrefl, List.nil_append]); first | done | rfl))
local macro_rules | `(tactic| walk_at "lfs") => `(tactic| first | rfl | exact lfs_ints _)
def topS (i : Nat) : Stmt := PySem.Challenge.pw_lotmeal_k22_which_are_over.main.body.getD i (.Pass ⟨0, 0, 0, 0⟩)
abbrev s_under : Stmt := topS 8
theorem sc_under : FnScope ["one", "other"] ["one", "other"] (defScope s_under) := ⟨rfl, rfl, rfl, by decide +kernel, rfl, by decide +kernel, by decide +kernel⟩
abbrev s_table_of : Stmt := topS 12
theorem sc_table_of : FnScope ["counts", "orders", "count", "asker", "order", "thing"] ["counts", "orders"] (defScope s_table_of) := ⟨rfl, rfl, rfl, by decide +kernel, rfl, by decide +kernel, by decide +kernel⟩
theorem scx_table_of : FnScope ["counts", "orders", "count", "asker", "order", "thing", "gh_0"] ["counts", "orders"] (defScope s_table_of) := ⟨rfl, rfl, rfl, by decide +kernel, rfl, by decide +kernel, by decide +kernel⟩
abbrev s_full_order : Stmt := topS 13
theorem sc_full_order : FnScope ["table", "asker", "many", "order", "thing"] ["table", "asker"] (defScope s_full_order) := ⟨rfl, rfl, rfl, by decide +kernel, rfl, by decide +kernel, by decide +kernel⟩
abbrev s_wishes_in : Stmt := topS 15
theorem sc_wishes_in : FnScope ["table", "shares", "found", "asker", "row", "ahead", "one", "better"] ["table", "shares"] (defScope s_wishes_in) := ⟨rfl, rfl, rfl, by decide +kernel, rfl, by decide +kernel, by decide +kernel⟩
abbrev s_over_pairs : Stmt := topS 16
theorem sc_over_pairs : FnScope ["table", "shares", "asker", "better", "one"] ["table", "shares"] (defScope s_over_pairs) := ⟨rfl, rfl, rfl, by decide +kernel, rfl, by decide +kernel, by decide +kernel⟩
abbrev s_law_cell_at : Stmt := topS 18
theorem sc_law_cell_at : FnScope ["script", "k"] ["script", "k"] (defScope s_law_cell_at) := ⟨rfl, rfl, rfl, by decide +kernel, rfl, by decide +kernel, by decide +kernel⟩
abbrev s_law_stream : Stmt := topS 19
theorem sc_law_stream : FnScope ["cell", "many", "drawn", "found", "k"] ["cell", "many"] (defScope s_law_stream) := ⟨rfl, rfl, rfl, by decide +kernel, rfl, by decide +kernel, by decide +kernel⟩
abbrev s_law_order : Stmt := topS 20
theorem sc_law_order : FnScope ["cell", "many", "some", "left", "order", "k"] ["cell", "many"] (defScope s_law_order) := ⟨rfl, rfl, rfl, by decide +kernel, rfl, by decide +kernel, by decide +kernel⟩
abbrev s_law_orders : Stmt := topS 21
theorem sc_law_orders : FnScope ["cells", "many", "orders", "cell"] ["cells", "many"] (defScope s_law_orders) := ⟨rfl, rfl, rfl, by decide +kernel, rfl, by decide +kernel, by decide +kernel⟩
abbrev s_law_counts : Stmt := topS 22
theorem sc_law_counts : FnScope ["cell", "many", "found", "one"] ["cell", "many"] (defScope s_law_counts) := ⟨rfl, rfl, rfl, by decide +kernel, rfl, by decide +kernel, by decide +kernel⟩
abbrev s_law_divisor : Stmt := topS 23
theorem sc_law_divisor : FnScope ["one", "other"] ["one", "other"] (defScope s_law_divisor) := ⟨rfl, rfl, rfl, by decide +kernel, rfl, by decide +kernel, by decide +kernel⟩
abbrev s_law_lowest : Stmt := topS 24
theorem sc_law_lowest : FnScope ["top", "bottom", "by"] ["top", "bottom"] (defScope s_law_lowest) := ⟨rfl, rfl, rfl, by decide +kernel, rfl, by decide +kernel, by decide +kernel⟩
abbrev s_law_turn_deal : Stmt := topS 25
theorem sc_law_turn_deal : FnScope ["cell", "counts", "orders", "some", "askers", "left", "deal", "order", "k", "asker", "own", "thing"] ["cell", "counts", "orders"] (defScope s_law_turn_deal) := ⟨rfl, rfl, rfl, by decide +kernel, rfl, by decide +kernel, by decide +kernel⟩
abbrev s_law_any_deal : Stmt := topS 26
theorem sc_law_any_deal : FnScope ["cell", "counts", "askers", "some", "left", "deal", "k", "want"] ["cell", "counts", "askers"] (defScope s_law_any_deal) := ⟨rfl, rfl, rfl, by decide +kernel, rfl, by decide +kernel, by decide +kernel⟩
abbrev s_law_drawn : Stmt := topS 27
theorem sc_law_drawn : FnScope ["cells", "counts", "orders", "weights", "deals", "cell", "shares", "asker", "row", "one", "top", "weight", "deal"] ["cells", "counts", "orders"] (defScope s_law_drawn) := ⟨rfl, rfl, rfl, by decide +kernel, rfl, by decide +kernel, by decide +kernel⟩
abbrev s_law_tabled : Stmt := topS 28
theorem sc_law_tabled : FnScope ["script", "many", "askers", "orders", "k"] ["script"] (defScope s_law_tabled) := ⟨rfl, rfl, rfl, by decide +kernel, rfl, by decide +kernel, by decide +kernel⟩
abbrev s_law_place : Stmt := topS 29
theorem sc_law_place : FnScope ["order", "many", "one"] ["order", "many", "one"] (defScope s_law_place) := ⟨rfl, rfl, rfl, by decide +kernel, rfl, by decide +kernel, by decide +kernel⟩
abbrev s_law_due : Stmt := topS 30
theorem sc_law_due : FnScope ["many", "orders", "shares", "found", "better", "one", "wants", "k", "ahead"] ["many", "orders", "shares"] (defScope s_law_due) := ⟨rfl, rfl, rfl, by decide +kernel, rfl, by decide +kernel, by decide +kernel⟩
abbrev s_law_told : Stmt := topS 31
theorem sc_law_told : FnScope ["found", "due", "row", "other"] ["found", "due"] (defScope s_law_told) := ⟨rfl, rfl, rfl, by decide +kernel, rfl, by decide +kernel, by decide +kernel⟩
abbrev s_law : Stmt := topS 32
theorem sc_law : FnScope ["script", "counts", "orders", "cells", "shares", "table", "order", "due", "handed", "row", "found"] ["script"] (defScope s_law) := ⟨rfl, rfl, rfl, by decide +kernel, rfl, by decide +kernel, by decide +kernel⟩
structure Txt (K : PySem.W.Frag) (mg : Str → Option Value) : Prop where
  f_under : TxF K mg "under" s_under ["one", "other"]
  f_table_of : TxF K mg "table_of" s_table_of ["counts", "orders"]
  f_full_order : TxF K mg "full_order" s_full_order ["table", "asker"]
  f_wishes_in : TxF K mg "wishes_in" s_wishes_in ["table", "shares"]
  f_over_pairs : TxF K mg "over_pairs" s_over_pairs ["table", "shares"]
  f_law_cell_at : TxF K mg "_law_cell_at" s_law_cell_at ["script", "k"]
  f_law_stream : TxF K mg "_law_stream" s_law_stream ["cell", "many"]
  f_law_order : TxF K mg "_law_order" s_law_order ["cell", "many"]
  f_law_orders : TxF K mg "_law_orders" s_law_orders ["cells", "many"]
  f_law_counts : TxF K mg "_law_counts" s_law_counts ["cell", "many"]
  f_law_divisor : TxF K mg "_law_divisor" s_law_divisor ["one", "other"]
  f_law_lowest : TxF K mg "_law_lowest" s_law_lowest ["top", "bottom"]
  f_law_turn_deal : TxF K mg "_law_turn_deal" s_law_turn_deal ["cell", "counts", "orders"]
  f_law_any_deal : TxF K mg "_law_any_deal" s_law_any_deal ["cell", "counts", "askers"]
  f_law_drawn : TxF K mg "_law_drawn" s_law_drawn ["cells", "counts", "orders"]
  f_law_tabled : TxF K mg "_law_tabled" s_law_tabled ["script"]
  f_law_place : TxF K mg "_law_place" s_law_place ["order", "many", "one"]
  f_law_due : TxF K mg "_law_due" s_law_due ["many", "orders", "shares"]
  f_law_told : TxF K mg "_law_told" s_law_told ["found", "due"]
  f_law : TxF K mg "law" s_law ["script"]
  m_abs : mg "abs" = none
  m_bool : mg "bool" = none
  m_enumerate : mg "enumerate" = none
  m_int : mg "int" = none
  m_isinstance : mg "isinstance" = none
  m_len : mg "len" = none
  m_list : mg "list" = none
  m_range : mg "range" = none
  m_set : mg "set" = none
  m_sorted : mg "sorted" = none
  m_sum : mg "sum" = none
  m_tuple : mg "tuple" = none
  m_zip : mg "zip" = none
  c_MOST : ∃ t, mg "MOST" = some (.int 6 t)
  c_MOST_COUNT : ∃ t, mg "MOST_COUNT" = some (.int 9 t)
section
variable {P0 : Program} {w : World} {K : PySem.W.Frag} {mg : Str → Option Value} {base : Heap}
def P_under (ds : List PyData) (d : PyData) : Prop := ∃ a b : Rat, ds = [frQ a, frQ b] ∧ SmQ a ∧ SmQ b ∧ d = .bool (decide (a < b))
theorem ok_under (T : Txt K mg) : FnC P0 w K mg base "under" 1 P_under := by
  refine fn_C T.f_under sc_under (fun ds d ⟨a, b, e, _⟩ => by rw [e]; rfl) (fun f cdv A outer s H E hr ds d ⟨a, b, hds, ha, hb, hd⟩ => ?_)
  subst hds hd
  have c1 := ha.nd hb
  have c2 := hb.nd ha
  refine sd_norm (by walk_at "nrm") ?_
  refine sd_cons ?_
  refine s_ret ?_
  refine rd_cmp (hu65 hr) ?_
  refine rv_of ?_
  refine rd_ar ?_
  refine rv_of ?_
  refine rd_ix ?_
  first | refine rd_nF 0 rfl ?_ | refine rd_nO 0 rfl ?_ | refine rd_nA 0 rfl ?_  -- one
  refine rv_int ?_
  refine ⟨_, rfl, ?_⟩
  refine ⟨_, rfl, ?_⟩
  first | refine ⟨_, rfl, ?_⟩ | refine ⟨_, dat_nrm, ?_⟩
  refine rv_of ?_
  refine rd_ix ?_
  first | refine rd_nF 1 rfl ?_ | refine rd_nO 1 rfl ?_ | refine rd_nA 1 rfl ?_  -- other
  refine rv_int ?_
  refine ⟨_, rfl, ?_⟩
  refine ⟨_, rfl, ?_⟩
  first | refine ⟨_, rfl, ?_⟩ | refine ⟨_, dat_nrm, ?_⟩
  refine ⟨_, _, rfl, by walk_at "cond", ?_⟩
  first | refine ⟨_, rfl, ?_⟩ | refine ⟨_, dat_nrm, ?_⟩
  refine rv_of ?_
  refine rd_ar ?_
  refine rv_of ?_
  refine rd_ix ?_
  first | refine rd_nF 1 rfl ?_ | refine rd_nO 1 rfl ?_ | refine rd_nA 1 rfl ?_  -- other
  refine rv_int ?_
  refine ⟨_, rfl, ?_⟩
  refine ⟨_, rfl, ?_⟩
  first | refine ⟨_, rfl, ?_⟩ | refine ⟨_, dat_nrm, ?_⟩
  refine rv_of ?_
  refine rd_ix ?_
  first | refine rd_nF 0 rfl ?_ | refine rd_nO 0 rfl ?_ | refine rd_nA 0 rfl ?_  -- one
  refine rv_int ?_
  refine ⟨_, rfl, ?_⟩
  refine ⟨_, rfl, ?_⟩
  first | refine ⟨_, rfl, ?_⟩ | refine ⟨_, dat_nrm, ?_⟩
  refine ⟨_, _, rfl, by walk_at "cond", ?_⟩
  first | refine ⟨_, rfl, ?_⟩ | refine ⟨_, dat_nrm, ?_⟩
  refine ⟨_, _, rfl, by walk_at "cond", ?_⟩
  rw [q_lt]
  refine ⟨_, rfl, ?_⟩
  walk_at "ret"
def P_table_of (ds : List PyData) (d : PyData) : Prop := ∃ t : Table, ds = [numsD t.1, rowsD t.2] ∧ MTab t ∧ 1 ≤ t.2.length ∧ d = tabD t
theorem ok_table_of (T : Txt K mg) : FnC P0 w K mg base "table_of" 1 P_table_of := by
  refine fn_C T.f_table_of sc_table_of (fun ds d ⟨t, e, _⟩ => by rw [e]; rfl) (fun f cdv A outer s H E hr ds d ⟨t, hds, M, h1, hd⟩ => ?_)
  subst hds hd
  have hn := M.n
  have ha := M.a
  have hol : ∀ o ∈ t.2, o.length ≤ 6 := fun o ho => Nat.le_trans (nodup_le (M.nd o ho) (M.os o ho)) hn
  refine sd_norm (by walk_at "nrm") ?_
  refine sd_cons ?_
  refine s_ifF ?_ ?_
  · refine rt_bool ?_
    refine rw_orF ?_ ?_
    · refine rt_cmp (hu65 hr) <| rv_of <| rd_len T.m_len <| rv_nF 0 rfl ⟨_, _, rfl, trivial, _, rfl, rv_globI T.c_MOST ⟨_, _, rfl, trivial, decide_eq_false (by rw [List.length_map]; omega)⟩⟩
    refine rw_or1 ?_
    refine rt_cmp (hu65 hr) <| rv_of <| rd_len T.m_len <| rv_nF 1 rfl ⟨_, _, rfl, trivial, _, rfl, rv_globI T.c_MOST ⟨_, _, rfl, trivial, decide_eq_false (by rw [List.length_map]; omega)⟩⟩
  refine sd_norm (by walk_at "nrm") ?_
  refine sd_nil ?_
  refine sd_norm (by walk_at "nrm") ?_
  refine sd_cons ?_
  refine s_ifF ?_ ?_
  · refine rt_cmp (hu65 hr) <| rv_of <| rd_len T.m_len <| rv_nF 1 rfl ⟨_, _, rfl, trivial, _, rfl, rv_int ⟨_, _, rfl, trivial, decide_eq_false (by rw [List.length_map]; omega)⟩⟩
  refine sd_norm (by walk_at "nrm") ?_
  refine sd_nil ?_
  refine sd_norm (by walk_at "nrm") ?_
  refine sd_cons ?_
  refine s_forC (.one 2) [2] ?_ PassesOwn.never rfl (pg_name (i := 2) sc_table_of.nd rfl (by first | exact .inl rfl | exact .inr rfl))
  refine ri_list <| rf_of <| rd_nF 0 rfl ⟨_, rfl, _, rfl, ?_⟩
  refine ⟨keep_intro rfl, ?_, fun f => ?_⟩
  · rintro k d f he
    obtain ⟨c, hc, rfl⟩ := get_map he
    have hcb := M.c c (List.mem_of_getElem? hc)
    refine ⟨_, rfl, rfl, ?_⟩
    refine sd_norm (by walk_at "nrm") ?_
    refine sd_cons ?_
    refine s_ifF ?_ ?_
    · refine rt_notK ?_
      refine rt_chain (hu65 hr) <| rv_int <| rv_nF 2 rfl ⟨_, _, rfl, trivial, fun hb => ?_, fun hb => ?_⟩
      · exact absurd (of_decide_eq_false hb) (by omega)
      · exact rv_globI T.c_MOST_COUNT ⟨_, _, rfl, trivial, decide_eq_true (by omega)⟩
    refine sd_norm (by walk_at "nrm") ?_
    refine sd_nil (sd_nil (keep_intro rfl))
  refine sd_norm (by walk_at "nrm") ?_
  refine sd_wipe [2] ?_
  refine sd_norm (by walk_at "nrm") ?_
  refine sd_norm (by walk_at "nrm") ?_
  refine sd_cons ?_
  refine s_forC (.tup [3, 4]) [3, 4, 5] ?_ PassesOwn.never rfl (pg_tup rfl (pgs_cons (pg_name (i := 3) sc_table_of.nd rfl (by first | exact .inl rfl | exact .inr rfl)) (pgs_cons (pg_name (i := 4) sc_table_of.nd rfl (by first | exact .inl rfl | exact .inr rfl)) pgs_nil)))
  refine ri_enum T.m_enumerate <| rfa_cons <| rf_of <| rd_nF 1 rfl ⟨_, rfl, rfa_nil ⟨_, rfl, ?_⟩⟩
  refine ⟨keep_intro rfl, ?_, fun f => ?_⟩
  · rintro k d f he
    obtain ⟨x, hx, rfl⟩ := enumD_get he
    obtain ⟨o, ho, rfl⟩ := get_map hx
    refine ⟨_, rfl, rfl, ?_⟩
    refine sd_norm (by walk_at "nrm") ?_
    refine sd_wipe [5] ?_
    refine sd_norm (by walk_at "nrm") ?_
    refine sd_norm (by walk_at "nrm") ?_
    refine sd_cons ?_
    refine s_forC (.one 5) [5] ?_ PassesOwn.never rfl (pg_name (i := 5) sc_table_of.nd rfl (by first | exact .inl rfl | exact .inr rfl))
    refine ri_list <| rf_of <| rd_nF 4 rfl ⟨_, rfl, _, rfl, ?_⟩
    refine ⟨keep_intro rfl, ?_, fun f => ?_⟩
    · rintro k2 d f he
      obtain ⟨y, hy, rfl⟩ := get_map he
      have hyb := M.os o (List.mem_of_getElem? ho) y (List.mem_of_getElem? hy)
      refine ⟨_, rfl, rfl, ?_⟩
      refine sd_norm (by walk_at "nrm") ?_
      refine sd_cons ?_
      refine s_ifF ?_ ?_
      · refine rt_notK ?_
        refine rt_chain (hu65 hr) <| rv_int <| rv_nF 5 rfl ⟨_, _, rfl, trivial, fun hb => ?_, fun hb => ?_⟩
        · exact absurd (of_decide_eq_false hb) (by omega)
        · exact rv_of <| rd_len T.m_len <| rv_nF 0 rfl ⟨_, _, rfl, trivial, _, rfl, _, _, rfl, trivial, decide_eq_true (by rw [List.length_map]; omega)⟩
      refine sd_norm (by walk_at "nrm") ?_
      refine sd_nil (sd_nil (keep_intro rfl))
    refine sd_norm (by walk_at "nrm") ?_
    refine sd_wipe [5] ?_
    refine sd_norm (by walk_at "nrm") ?_
    refine sd_norm (by walk_at "nrm") ?_
    exact sd_nil (keep_intro rfl)
  refine sd_norm (by walk_at "nrm") ?_
  refine sd_wipe [3, 4, 5] ?_
  refine sd_norm (by walk_at "nrm") ?_
  refine sd_norm (by walk_at "nrm") ?_
  refine sd_cons ?_
  refine s_forC (.tup [3, 4]) [3, 4] ?_ PassesOwn.never rfl (pg_tup rfl (pgs_cons (pg_name (i := 3) sc_table_of.nd rfl (by first | exact .inl rfl | exact .inr rfl)) (pgs_cons (pg_name (i := 4) sc_table_of.nd rfl (by first | exact .inl rfl | exact .inr rfl)) pgs_nil)))
  refine ri_enum T.m_enumerate <| rfa_cons <| rf_of <| rd_nF 1 rfl ⟨_, rfl, rfa_nil ⟨_, rfl, ?_⟩⟩
  refine ⟨keep_intro rfl, ?_, fun f => ?_⟩
  · rintro k d f he
    obtain ⟨x, hx, rfl⟩ := enumD_get he
    obtain ⟨o, ho, rfl⟩ := get_map hx
    have hom := List.mem_of_getElem? ho
    have := hol o hom
    refine ⟨_, rfl, rfl, ?_⟩
    refine sd_norm (by walk_at "nrm") ?_
    refine sd_cons ?_
    refine s_ifF ?_ ?_
    · refine rt_cmp (hu65 hr) <| rv_of <| rd_lenSet rfl T.m_len T.m_set <| rv_nF 4 rfl ⟨o, rfl, M.nd o hom, by omega, _, rfl, rv_of <| rd_len T.m_len <| rv_nF 4 rfl ⟨_, _, rfl, trivial, _, rfl, _, _, rfl, trivial, decide_eq_false (by rw [List.length_map]; omega)⟩⟩
    refine sd_norm (by walk_at "nrm") ?_
    refine sd_nil (sd_nil (keep_intro rfl))
  refine sd_norm (by walk_at "nrm") ?_
  refine sd_wipe [3, 4] ?_
  refine sd_norm (by walk_at "nrm") ?_
  refine sd_norm (by walk_at "nrm") ?_
  refine sd_cons <| s_ret <| rd_tuple <| ro_cons <| rd_listof T.m_list <| ra_cons <| rv_nF 0 rfl <| ra_nil ⟨_, .inl rfl, lfs_ints _, _, rfl, ro_cons ?_⟩
  refine rd_lc (own := [("order", 4)]) (.one 4) t.2 numsD (fun o => [numsD o]) numsD rfl sc_table_of.nd (blkOk_by rfl) (fun _ _ _ _ _ => pg_name (i := 4) sc_table_of.nd rfl (by first | exact .inl rfl | exact .inr rfl)) ?_ ?_ ?_ ?_ ?_
  · refine ri_list <| rf_of <| rd_nF 1 rfl ⟨_, rfl, _, rfl, rfl⟩
  · show _ ≤ 2 ^ 24; omega
  · exact fun a ha => rfl
  · intro a ha s H C cl fp
    exact rd_listof T.m_list <| ra_cons <| rv_nF 4 rfl <| ra_nil ⟨_, .inl rfl, lfs_ints _, rfl⟩
  exact ⟨_, rfl, ro_nil ⟨Nat.le_of_ble_eq_true rfl, _, rfl, .inl rfl⟩⟩
def P_full_order (ds : List PyData) (d : PyData) : Prop := ∃ (t : Table) (a : Nat) (o : List Int), ds = [tabD t, .int a] ∧ t.2[a]? = some o ∧ t.1.length ≤ 1000 ∧ o.length ≤ 1000 ∧ d = numsD (fullO t.1.length o)
theorem ok_full_order (T : Txt K mg) : FnC P0 w K mg base "full_order" 1 P_full_order := by
  refine fn_C T.f_full_order sc_full_order (fun ds d ⟨t, a, o, e, _⟩ => by rw [e]; rfl) (fun f cdv A outer s H E hr ds d ⟨t, a, o, hds, hao, hl1, hl2, hd⟩ => ?_)
  subst hds hd
  have hat : atI (t.2.map numsD) (a : Int) = some (numsD o) := atI_nat (by rw [List.getElem?_map, hao]; rfl)
  refine sd_norm (by walk_at "nrm") ?_
  refine sd_cons ?_
  refine s_set 2 ?_ sc_full_order.nd  -- many (s_setF: frozen)
  refine rd_len T.m_len ?_
  refine rv_of ?_
  refine rd_ix ?_
  first | refine rd_nF 0 rfl ?_ | refine rd_nO 0 rfl ?_ | refine rd_nA 0 rfl ?_  -- table
  refine rv_int ?_
  refine ⟨_, rfl, ?_⟩
  refine ⟨_, rfl, ?_⟩
  first | refine ⟨_, rfl, ?_⟩ | refine ⟨_, dat_nrm, ?_⟩
  refine ⟨_, _, rfl, by walk_at "cond", ?_⟩
  refine sd_norm (by walk_at "nrm") ?_
  refine sd_cons ?_
  refine s_set 3 ?_ sc_full_order.nd  -- order (s_setF: frozen)
  refine rd_ix ?_
  refine rd_ix ?_
  first | refine rd_nF 0 rfl ?_ | refine rd_nO 0 rfl ?_ | refine rd_nA 0 rfl ?_  -- table
  refine rv_int ?_
  refine ⟨_, rfl, ?_⟩
  refine ⟨_, rfl, ?_⟩
  first | refine rv_nF 1 rfl ?_ | refine rv_nO 1 rfl ?_  -- asker
  refine ⟨_, rfl, ?_⟩
  refine ⟨_, hat, ?_⟩
  refine sd_norm (by walk_at "nrm") ?_
  refine sd_cons ?_
  refine s_ret ?_
  refine rd_ar ?_
  refine rv_of ?_
  refine rd_ar ?_
  first | refine rv_nF 3 rfl ?_ | refine rv_nO 3 rfl ?_  -- order
  refine rv_of ?_
  refine rd_list ?_
  refine ro_cons ?_
  first | refine rd_nF 2 rfl ?_ | refine rd_nO 2 rfl ?_ | refine rd_nA 2 rfl ?_  -- many
  first | refine ⟨_, rfl, ?_⟩ | refine ⟨_, ⟨rfl, rfl⟩, ?_⟩
  refine ro_nil ⟨Nat.le_of_ble_eq_true rfl, ?_⟩
  first | refine ⟨_, rfl, ?_⟩ | refine ⟨_, dat_nrm, ?_⟩
  refine ⟨_, _, rfl, ⟨lfs_ints _, rfl, by simp only [sizeLine, List.length_map, List.length_cons, List.length_nil]; omega⟩, ?_⟩
  first | refine ⟨_, rfl, ?_⟩ | refine ⟨_, dat_nrm, ?_⟩
  refine rv_of ?_
  refine rd_lcIf (own := [("thing", 4)]) (.one 4) (List.range t.1.length) (fun j => .int (0 + (j : Nat))) (fun j => [.int (0 + (j : Nat))]) (fun j => decide ((0 + ((j : Nat) : Int)) ∉ o)) (fun j => .int (0 + (j : Nat))) rfl sc_full_order.nd (blkOk_by rfl) (fun _ _ _ _ _ => pg_name (i := 4) sc_full_order.nd rfl (by first | exact .inl rfl | exact .inr rfl)) ?_ ?_ ?_ ?_ ?_ ?_
  · refine ri_range1 T.m_range ?_
    refine ra_cons ?_
    first | refine rv_nF 2 rfl ?_ | refine rv_nO 2 rfl ?_  -- many
    refine ra_nil ?_
    refine ⟨(t.1.length : Int), by rw [List.length_map], by omega, by omega, ?_⟩
    rfl
  · rw [List.length_range]; show _ ≤ 2 ^ 24; omega
  · exact fun a ha => rfl
  · intro a ha s H C cl fp
    refine rt_cmp (hu65 hr) ?_
    first | refine rv_nF 4 rfl ?_ | refine rv_nO 4 rfl ?_  -- thing
    first | refine rv_nF 3 rfl ?_ | refine rv_nO 3 rfl ?_  -- order
    refine ⟨_, _, rfl, by rw [depthD_ints]; exact Nat.zero_le _, ?_⟩
    rw [anyD_ints, decide_not]
  · intro a ha hk s H C cl fp
    first | refine rd_nF 4 rfl ?_ | refine rd_nO 4 rfl ?_ | refine rd_nA 4 rfl ?_  -- thing
    first | exact rfl | exact ⟨rfl, rfl⟩
  first | refine ⟨_, rfl, ?_⟩ | refine ⟨_, dat_nrm, ?_⟩
  have E1 : ((List.range t.1.length).filter fun (j : Nat) => decide ((0 + (j : Int)) ∉ o)).map (fun (j : Nat) => PyData.int (0 + (j : Int))) = ((rng t.1.length).filter fun x => decide (x ∉ o)).map PyData.int := by
    unfold rng
    rw [List.filter_map, List.map_map]
    rfl
  have E2 : ((rng t.1.length).filter fun x => decide (x ∉ o)).length ≤ t.1.length := by
    have := List.length_filter_le (fun x => decide (x ∉ o)) (rng t.1.length)
    rwa [rng_len] at this
  rw [E1]
  refine ⟨_, _, rfl, ⟨lfs_app (lfs_ints _) rfl, lfs_ints _, by simp only [sizeLine, List.length_map, List.length_cons, List.length_nil, List.length_append]; omega⟩, ?_⟩
  refine ⟨_, rfl, .inl ?_⟩
  unfold fullO
  rw [numsD, List.map_append, List.map_append, List.length_map]
  rfl
def WishOk (cs : List Int) (os : List (List Int)) (sh : List (List Rat)) (W : Nat) : Prop := TabQ cs os ∧ sh.length = os.length ∧ ShX W sh ∧ ∀ r ∈ sh, r.length = cs.length + 1
def P_wishes_in (ds : List PyData) (d : PyData) : Prop := ∃ (cs : List Int) (os : List (List Int)) (sh : List (List Rat)) (W : Nat), ds = [tabD (cs, os), sharesD sh] ∧ WishOk cs os sh W ∧ d = tupsN (sortT (wishAll cs.length os sh sh.length))
theorem fullO_le {cs : List Int} {os : List (List Int)} (Q : TabQ cs os) (i : Nat) : (fullO cs.length (os.getD i [])).length ≤ 13 := by
  have h := fullO_len cs.length (os.getD i [])
  have hn := Q.n
  by_cases hi : i < os.length
  · have := (Q.o (os.getD i []) (by rw [List.getD_eq_getElem?_getD, List.getElem?_eq_getElem hi]; exact List.getElem_mem hi)).len
    omega
  · have : os.getD i [] = [] := by rw [List.getD_eq_getElem?_getD, List.getElem?_eq_none (by omega)]; rfl
    rw [this] at h ⊢
    have h0 : ([] : List Int).length = 0 := rfl
    omega
theorem wish_bd {cs : List Int} {os : List (List Int)} {sh : List (List Rat)} (Q : TabQ cs os) (hl : sh.length = os.length) {t : List Int} (h : t ∈ wishAll cs.length os sh sh.length) : t.length = 3 ∧ TS.Bd 64 t := by
  obtain ⟨i, b, x, rfl, hi, hb, hx⟩ := wishAll_mem (Nat.le_refl _) h
  have hn := Q.n
  have ha := Q.a
  have ho := Q.o (os.getD i []) (by rw [List.getD_eq_getElem?_getD, List.getElem?_eq_getElem (by omega)]; exact List.getElem_mem _)
  have b1 := (fullO_mem ho.rg).mp hb
  have x1 := (fullO_mem ho.rg).mp hx
  refine ⟨rfl, fun m hm => ?_⟩
  simp only [List.mem_cons, List.not_mem_nil, or_false] at hm
  rcases hm with rfl | rfl | rfl <;> omega
theorem ok_wishes_in (T : Txt K mg) : FnC P0 w K mg base "wishes_in" 2 P_wishes_in := by
  refine fn_C T.f_wishes_in sc_wishes_in (fun ds d ⟨cs, os, sh, W, e, _⟩ => by rw [e]; rfl) (fun f cdv A outer s H E hr ds d ⟨cs, os, sh, W, hds, ⟨Q, hl, S, hrl⟩, hd⟩ => ?_)
  subst hds hd
  have hn := Q.n
  have ha := Q.a
  refine sd_norm (by walk_at "nrm") ?_
  refine sd_cons <| s_set (hN := sc_wishes_in.nd) 2 <| rd_list <| ro_nil ⟨Nat.le_of_ble_eq_true rfl, ?_⟩
  refine sd_norm (by walk_at "nrm") ?_
  refine sd_norm (by walk_at "nrm") ?_
  refine sd_cons ?_
  refine s_forT (α := Unit) (.tup [3, 4]) [3, 4, 5, 6, 7] ?_ PassesOwn.never rfl (pg_tup rfl (pgs_cons (pg_name (i := 3) sc_wishes_in.nd rfl (by first | exact .inl rfl | exact .inr rfl)) (pgs_cons (pg_name (i := 4) sc_wishes_in.nd rfl (by first | exact .inl rfl | exact .inr rfl)) pgs_nil)))
  refine ri_enum T.m_enumerate <| rfa_cons <| rf_of <| rd_nF 1 rfl ⟨_, rfl, rfa_nil ⟨_, rfl, ?_⟩⟩
  refine ⟨fun k _ => [(2, .ow (tupsN (wishAll cs.length os sh k)))], fun k _ => True, ⟨(), trivial, keep_intro rfl⟩, ?_, fun f _ oa => ?_⟩
  · rintro i d f _ he _
    obtain ⟨x, hx, rfl⟩ := enumD_get he
    obtain ⟨row, hrk, rfl⟩ := get_map hx
    have hrm := List.mem_of_getElem? hrk
    have hi := (List.getElem?_eq_some_iff.mp hrk).1
    have hrd : sh.getD i [] = row := by rw [List.getD_eq_getElem?_getD, hrk]; rfl
    obtain ⟨o, ho⟩ : ∃ o, os[i]? = some o := ⟨_, List.getElem?_eq_getElem (by omega)⟩
    have hod : os.getD i [] = o := by rw [List.getD_eq_getElem?_getD, ho]; rfl
    have hoo := Q.o o (List.mem_of_getElem? ho)
    have hfl := fullO_le Q i
    rw [hod] at hfl
    have hwl := wishAll_len (sh := sh) (fullO_le Q) i
    have hs : wishAll cs.length os sh (i + 1) = wishAll cs.length os sh i ++ wishRow (i : Int) row (fullO cs.length o) (fullO cs.length o).length := by rw [wishAll, hrd, hod]
    generalize hW : wishAll cs.length os sh i = W0 at *
    refine ⟨_, rfl, rfl, ?_⟩
    refine sd_norm (by walk_at "nrm") ?_
    refine sd_wipe [5, 6, 7] ?_
    refine sd_norm (by walk_at "nrm") ?_
    refine sd_norm (by walk_at "nrm") ?_
    refine sd_cons <| s_set (hN := sc_wishes_in.nd) 5 <| rd_list <| ro_nil ⟨Nat.le_of_ble_eq_true rfl, ?_⟩
    refine sd_norm (by walk_at "nrm") ?_
    refine sd_norm (by walk_at "nrm") ?_
    refine sd_cons ?_
    refine s_forT (α := Unit) (.one 6) [6, 7] ?_ PassesOwn.never rfl (pg_name (i := 6) sc_wishes_in.nd rfl (by first | exact .inl rfl | exact .inr rfl))
    refine ri_list <| rf_of <| rd_call (callC (ok_full_order T) hr) <| ra_cons <| rv_nF 0 rfl <| ra_cons <| rv_nF 3 rfl <| ra_nil ⟨_, ⟨(cs, os), i, o, rfl, ho, by show cs.length ≤ 1000; omega, by have := hoo.len; omega, rfl⟩, _, rfl, _, rfl, ?_⟩
    refine ⟨fun k _ => [(2, .ow (tupsN (W0 ++ wishRow (i : Int) row (fullO cs.length o) k))), (5, .ow (numsD ((fullO cs.length o).take k)))], fun k _ => True, ⟨(), trivial, keep_intro (by simp only [wishRow, List.append_nil, List.take_zero, hW]; rfl)⟩, ?_, fun f _ ob => ?_⟩
    · rintro k d f _ he _
      obtain ⟨x, hxk, rfl⟩ := get_map he
      replace hxk : (fullO cs.length o)[k]? = some x := hxk
      have hxr := (fullO_mem hoo.rg).mp (List.mem_of_getElem? hxk)
      have hxt : (fullO cs.length o).take (k + 1) = (fullO cs.length o).take k ++ [x] := by rw [List.take_succ, hxk]; rfl
      have hws := wishRow_succ (a := (i : Int)) (row := row) hxk
      have hkl := (List.getElem?_eq_some_iff.mp hxk).1
      have hwr := wishRow_len (a := (i : Int)) (row := row) hfl k
      have hrn := hrl row hrm
      have hxn : x.toNat < row.length := by omega
      have hat : atI (row.map frQ) x = some (frQ (leftAt row x)) := by
        obtain ⟨m, rfl⟩ : ∃ m : Nat, x = (m : Int) := ⟨x.toNat, by omega⟩
        exact atI_nat (j := m) (by unfold leftAt; rw [List.getElem?_map, Int.toNat_natCast, List.getD_eq_getElem?_getD, List.getElem?_eq_getElem (by omega)]; rfl)
      have hsq : SmQ (leftAt row x) := S.smq (S.q row hrm _ (by unfold leftAt; rw [List.getD_eq_getElem?_getD, List.getElem?_eq_getElem hxn]; exact List.getElem_mem hxn))
      refine ⟨_, rfl, rfl, ?_⟩
      refine sd_norm (by walk_at "nrm") ?_
      refine sd_wipe [7] ?_
      refine sd_norm (by walk_at "nrm") ?_
      generalize hWR : W0 ++ wishRow (i : Int) row (fullO cs.length o) k = W1 at *
      have hW1 : W1.length ≤ 2000 := by
        rw [← hWR, List.length_append]
        have h1 : 13 * 13 * i ≤ 13 * 13 * 6 := Nat.mul_le_mul_left _ (by omega)
        have h2 : 13 * k ≤ 13 * 13 := Nat.mul_le_mul_left _ (by omega)
        omega
      refine sd_norm (by walk_at "nrm") ?_
      refine sd_join (fun ρ => ρ = [.fz (tabD (cs, os)), .fz (sharesD sh), .ow (tupsN (W1 ++ if 0 < leftAt row x then ((fullO cs.length o).take k).map (fun b => [(i : Int), b, x]) else [])), .fz (.int (i : Nat)), .fz (frsQ row), .ow (numsD ((fullO cs.length o).take k)), .fz (.int x), .un]) ?_ ?_
      · refine s_if <| rt_val <| rv_of <| rd_call (callC (ok_under T) hr) <| ra_cons <| rv_of <| rd_tuple <| ro_cons <| rd_int ⟨_, ⟨rfl, rfl⟩, ro_cons <| rd_int ⟨_, ⟨rfl, rfl⟩, ro_nil ⟨Nat.le_of_ble_eq_true rfl, _, rfl, ra_cons <| rv_of <| rd_ix <| rd_nF 4 rfl <| rv_nF 6 rfl ⟨_, rfl, _, hat, _, rfl, ra_nil ⟨_, ⟨0, leftAt row x, rfl, smQ_0, hsq, rfl⟩, _, rfl, _, rfl, fun hb => ?_, fun hb => ?_⟩⟩⟩⟩⟩
        · have hb := of_decide_eq_true hb
          rw [if_pos hb]
          refine sd_norm (by walk_at "nrm") ?_
          refine sd_cons <| s_extendF <| rd_nO 2 rfl ⟨_, _, _, rfl, rfl, ?_⟩
          refine rd_lc (own := [("better", 7)]) (.one 7) ((fullO cs.length o).take k) PyData.int (fun b => [.int b]) (fun b => tupN [(i : Int), b, x]) rfl sc_wishes_in.nd (blkOk_by rfl) (fun _ _ _ _ _ => (pg_name (i := 7) sc_wishes_in.nd rfl (by first | exact .inl rfl | exact .inr rfl))) ?_ ?_ ?_ ?_ ?_
          · exact ri_list <| rf_of <| rd_nF 5 rfl ⟨_, rfl, _, rfl, rfl⟩
          · rw [List.length_take]; show _ ≤ 2 ^ 24; omega
          · exact fun a ha => rfl
          · intro b hb s H C cl fp
            exact rd_tuple <| ro_cons <| rd_nF 3 rfl ⟨_, ⟨rfl, rfl⟩, ro_cons <| rd_nF 7 rfl ⟨_, ⟨rfl, rfl⟩, ro_cons <| rd_nF 6 rfl ⟨_, ⟨rfl, rfl⟩, ro_nil ⟨Nat.le_of_ble_eq_true rfl, rfl, rfl⟩⟩⟩⟩
          refine ⟨_, rfl, ?_, ?_, ?_⟩
          · have h := lfs_tups (((fullO cs.length o).take k).map fun b => [(i : Int), b, x])
            rw [List.map_map] at h
            exact h
          · rw [List.length_map, List.length_map, List.length_take]; show _ ≤ 2 ^ 24; omega
          refine sd_norm (by walk_at "nrm") ?_
          rw [show PyData.list (W1.map tupN ++ ((fullO cs.length o).take k).map fun b => tupN [(i : Int), b, x]) = tupsN (W1 ++ ((fullO cs.length o).take k).map (fun b => [(i : Int), b, x])) by
            show _ = PyData.list ((W1 ++ _).map tupN)
            rw [List.map_append, List.map_map]
            rfl]
          refine sd_norm (by walk_at "nrm") ?_
          exact sd_nil rfl
        · have hb := of_decide_eq_false hb
          rw [if_neg hb, List.append_nil]
          refine sd_norm (by walk_at "nrm") ?_
          exact sd_nil rfl
      rintro ρ rfl
      refine sd_norm (by walk_at "nrm") ?_
      refine sd_cons <| s_append (ks := []) <| rd_nO 5 rfl ⟨_, _, _, rfl, rfl, by rw [List.length_map, List.length_take]; show _ < 2 ^ 24; omega, by decide, rm_of <| rd_nF 6 rfl ⟨_, ⟨rfl, rfl⟩, ?_⟩⟩
      refine sd_norm (by walk_at "nrm") ?_
      refine sd_norm (by walk_at "nrm") ?_
      refine sd_nil ⟨(), trivial, keep_intro ?_⟩
      simp only [hws, hxt, ← List.append_assoc, hWR, numsD, List.map_append, List.map_cons, List.map_nil]
      rfl
    refine sd_norm (by walk_at "nrm") ?_
    refine sd_wipe [5, 6, 7] ?_
    refine sd_norm (by walk_at "nrm") ?_
    refine sd_nil ⟨(), trivial, keep_intro ?_⟩
    simp only [hs, List.length_map]
    rfl
  refine sd_norm (by walk_at "nrm") ?_
  refine sd_wipe [3, 4, 5, 6, 7] ?_
  refine sd_norm (by walk_at "nrm") ?_
  have hb3 : ∀ t ∈ wishAll cs.length os sh sh.length, t.length = 3 ∧ TS.Bd 64 t := fun t ht => wish_bd Q hl ht
  rw [enumD_len, List.length_map]
  refine sd_norm (by walk_at "nrm") ?_
  exact sd_cons <| s_ret <| rd_sortN (dd := 3) (B := 64) T.m_sorted (by decide) <| ra_cons <| rv_nO 2 rfl <| ra_nil ⟨_, rfl, hb3, fun tss' pm pw => ⟨_, rfl, .inl (by rw [sortT_uniq hb3 pm pw])⟩⟩
def pairsOf2 (L : List (List Int)) : List (List Int) := L.map fun t => [t.getD 1 0, t.getD 2 0]
def A_over_pairs (ds : List PyData) : Prop := ∃ (cs : List Int) (os : List (List Int)) (sh : List (List Rat)) (W : Nat), ds = [tabD (cs, os), sharesD sh] ∧ WishOk cs os sh W
def R_over_pairs (ds : List PyData) (d : PyData) : Prop := ∃ (cs : List Int) (os : List (List Int)) (sh : List (List Rat)) (W : Nat) (tss : List (List Int)), ds = [tabD (cs, os), sharesD sh] ∧ WishOk cs os sh W ∧ d = tupsN tss ∧ tss.Nodup ∧ (∀ t, t ∈ tss ↔ t ∈ pairsOf2 (wishAll cs.length os sh sh.length)) ∧ tss.Pairwise fun x y => TS.code 64 x ≤ TS.code 64 y
def allPairs : List (List Int) := ((List.range 7).map fun (b : Nat) => (List.range 7).map fun (x : Nat) => [(b : Int), (x : Int)]).flatten
theorem allPairs_mem {b x : Int} (hb : 0 ≤ b ∧ b ≤ 6) (hx : 0 ≤ x ∧ x ≤ 6) : [b, x] ∈ allPairs := by
  refine List.mem_flatten.mpr ⟨_, List.mem_map.mpr ⟨b.toNat, List.mem_range.mpr (by omega), rfl⟩, List.mem_map.mpr ⟨x.toNat, List.mem_range.mpr (by omega), ?_⟩⟩
  rw [Int.toNat_of_nonneg hb.1, Int.toNat_of_nonneg hx.1]
theorem ok_over_pairs (T : Txt K mg) : FnN P0 w K mg base "over_pairs" 3 A_over_pairs R_over_pairs := by
  refine fn_N T.f_over_pairs sc_over_pairs (fun ds ⟨cs, os, sh, W, e, _⟩ => by rw [e]; rfl) (fun f cdv A outer s H E hr ds ⟨cs, os, sh, W, hds, ok⟩ => ?_)
  subst hds
  obtain ⟨Q, hl, S, hrl⟩ := ok
  have hn := Q.n
  have hbd := fun t ht => wish_bd (t := t) Q hl ht
  have hlen := wishAll_len (sh := sh) (fullO_le Q) sh.length
  have ha := Q.a
  have hmem : ∀ t ∈ wishAll cs.length os sh sh.length, ∃ (i : Nat) (b x : Int), t = [(i : Int), b, x] ∧ (0 ≤ b ∧ b ≤ 6) ∧ (0 ≤ x ∧ x ≤ 6) := fun t ht => by
    obtain ⟨i, b, x, rfl, hi, hb, hx⟩ := wishAll_mem (Nat.le_refl _) ht
    have ho := Q.o (os.getD i []) (by rw [List.getD_eq_getElem?_getD, List.getElem?_eq_getElem (by omega)]; exact List.getElem_mem _)
    have b1 := (fullO_mem ho.rg).mp hb
    have x1 := (fullO_mem ho.rg).mp hx
    exact ⟨i, b, x, rfl, by omega, by omega⟩
  have hsm : ∀ t ∈ sortT (wishAll cs.length os sh sh.length), ∃ (i : Nat) (b x : Int), t = [(i : Int), b, x] ∧ (0 ≤ b ∧ b ≤ 6) ∧ (0 ≤ x ∧ x ≤ 6) := fun t ht => hmem t ((sortT_perm _).mem_iff.mp ht)
  refine sd_norm (by walk_at "nrm") ?_
  refine sd_cons <| s_ret <| rd_sortSet (dd := 2) (B := 64) rfl (hu65 hr) T.m_sorted T.m_set (by decide) <| rv_of ?_
  refine rd_lc (own := [("asker", 2), ("better", 3), ("one", 4)]) (.tup [2, 3, 4]) (sortT (wishAll cs.length os sh sh.length)) tupN (fun t => t.map .int) (fun t => tupN [t.getD 1 0, t.getD 2 0]) rfl sc_over_pairs.nd (blkOk_by rfl) (fun _ _ _ _ _ => (pg_tup rfl (pgs_cons (pg_name (i := 2) sc_over_pairs.nd rfl (by first | exact .inl rfl | exact .inr rfl)) (pgs_cons (pg_name (i := 3) sc_over_pairs.nd rfl (by first | exact .inl rfl | exact .inr rfl)) (pgs_cons (pg_name (i := 4) sc_over_pairs.nd rfl (by first | exact .inl rfl | exact .inr rfl)) pgs_nil))))) ?_ ?_ ?_ ?_ ?_
  · exact ri_list <| rf_of <| rd_call (callC (ok_wishes_in T) hr) <| ra_cons <| rv_nF 0 rfl <| ra_cons <| rv_nF 1 rfl <| ra_nil ⟨_, ⟨cs, os, sh, W, rfl, ⟨Q, hl, S, hrl⟩, rfl⟩, _, rfl, _, rfl, rfl⟩
  · rw [(sortT_perm _).length_eq]
    have : 13 * 13 * sh.length ≤ 13 * 13 * 6 := Nat.mul_le_mul_left _ (by omega)
    show _ ≤ 2 ^ 24
    omega
  · intro t ht
    obtain ⟨i, b, x, rfl, _⟩ := hsm t ht
    rfl
  · intro t ht s H C cl fp
    obtain ⟨i, b, x, rfl, _⟩ := hsm t ht
    exact rd_tuple <| ro_cons <| rd_nF 3 rfl ⟨_, ⟨rfl, rfl⟩, ro_cons <| rd_nF 4 rfl ⟨_, ⟨rfl, rfl⟩, ro_nil ⟨Nat.le_of_ble_eq_true rfl, rfl, rfl⟩⟩⟩
  refine ⟨_, rfl, pairsOf2 (sortT (wishAll cs.length os sh sh.length)), allPairs, ?_, ?_, ?_, ?_, fun tss' nd mem pw => ⟨_, rfl, _, .inl rfl, cs, os, sh, W, tss', rfl, ⟨Q, hl, S, hrl⟩, rfl, nd, fun t => (mem t).trans ?_, pw⟩⟩
  · unfold pairsOf2
    show _ = PyData.list ((_ : List (List Int)).map tupN)
    rw [List.map_map]
    rfl
  · intro t ht
    obtain ⟨u, hu, rfl⟩ := List.mem_map.mp ht
    obtain ⟨i, b, x, rfl, hb, hx⟩ := hsm u hu
    exact allPairs_mem hb hx
  · decide +kernel
  · intro t ht
    obtain ⟨u, hu, rfl⟩ := List.mem_map.mp ht
    obtain ⟨i, b, x, rfl, hb, hx⟩ := hsm u hu
    refine ⟨rfl, fun m hm => ?_⟩
    have hm : m ∈ [b, x] := hm
    simp only [List.mem_cons, List.not_mem_nil, or_false] at hm
    rcases hm with rfl | rfl <;> omega
  · unfold pairsOf2
    constructor
    · intro h
      obtain ⟨u, hu, rfl⟩ := List.mem_map.mp h
      exact List.mem_map.mpr ⟨u, (sortT_perm _).mem_iff.mp hu, rfl⟩
    · intro h
      obtain ⟨u, hu, rfl⟩ := List.mem_map.mp h
      exact List.mem_map.mpr ⟨u, (sortT_perm _).mem_iff.mpr hu, rfl⟩
def cell (ns : List Int) (k : Int) : Int := ns.getD k.toNat 0
def P_law_cell_at (ds : List PyData) (d : PyData) : Prop := ∃ (ns : List Int) (k : Int), ds = [numsD ns, .int k] ∧ 0 ≤ k ∧ d = .int (cell ns k)
theorem ok_law_cell_at (T : Txt K mg) : FnC P0 w K mg base "_law_cell_at" 1 P_law_cell_at := by
  refine fn_C T.f_law_cell_at sc_law_cell_at (fun ds d ⟨ns, k, e, _⟩ => by rw [e]; rfl) (fun f cdv A outer s H E hr ds d ⟨ns, k, hds, hk, hd⟩ => ?_)
  subst hds hd
  refine sd_norm (by walk_at "nrm") ?_
  refine sd_cons (s_if (rt_cmp (hu65 hr) (rv_nF 1 rfl (rv_of (rd_len T.m_len (rv_nF 0 rfl ⟨_, _, rfl, trivial, _, rfl, _, _, rfl, trivial, fun hb => ?_, fun hb => ?_⟩))))))
  · have hb := of_decide_eq_true hb
    rw [List.length_map] at hb
    have hlt : k.toNat < ns.length := by omega
    refine sd_norm (by walk_at "nrm") ?_
    refine sd_cons (s_ret (rd_ix (rd_nF 0 rfl (rv_nF 1 rfl ⟨_, rfl, .int (cell ns k), ?_, _, rfl, .inr ⟨rfl, rfl⟩⟩))))
    have : k = (k.toNat : Int) := by omega
    rw [this]
    refine atI_nat ?_
    rw [List.getElem?_map, List.getElem?_eq_getElem hlt]
    unfold cell
    rw [Int.toNat_natCast, List.getD_eq_getElem?_getD, List.getElem?_eq_getElem hlt]
    rfl
  · have hb := of_decide_eq_false hb
    rw [List.length_map] at hb
    refine sd_norm (by walk_at "nrm") ?_
    refine sd_nil (sd_cons (s_ret (rd_int ⟨_, rfl, .inr ⟨?_, rfl⟩⟩)))
    unfold cell
    rw [List.getD_eq_getElem?_getD, List.getElem?_eq_none (by omega)]
    rfl
def A_law_stream (ds : List PyData) : Prop := ∃ (c : Int) (m : Nat), ds = [.int c, .int m] ∧ m ≤ 1000
def R_law_stream (ds : List PyData) (d : PyData) : Prop := ∃ (c : Int) (m : Nat) (xs : List Int), ds = [.int c, .int m] ∧ d = numsD xs ∧ xs.length = m ∧ ∀ x ∈ xs, 0 ≤ x
theorem ok_law_stream (T : Txt K mg) : FnN P0 w K mg base "_law_stream" 1 A_law_stream R_law_stream := by
  refine fn_N T.f_law_stream sc_law_stream (fun ds ⟨c, m, e, _⟩ => by rw [e]; rfl) (fun f cdv A outer s H E hr ds ⟨c, m, hds, hm⟩ => ?_)
  subst hds
  refine sd_norm (by walk_at "nrm") ?_
  refine sd_cons ?_
  refine s_set 2 ?_ sc_law_stream.nd  -- drawn (s_setF: frozen)
  refine rd_ar ?_
  refine rv_of ?_
  refine rd_ar ?_
  first | refine rv_nF 0 rfl ?_ | refine rv_nO 0 rfl ?_  -- cell
  refine rv_int ?_
  refine ⟨_, _, rfl, by walk_at "cond", ?_⟩
  first | refine ⟨_, rfl, ?_⟩ | refine ⟨_, dat_nrm, ?_⟩
  refine rv_int ?_
  refine ⟨_, _, rfl, by walk_at "cond", ?_⟩
  refine sd_norm (by walk_at "nrm") ?_
  refine sd_cons ?_
  refine s_set 3 ?_ sc_law_stream.nd  -- found (s_setF: frozen)
  refine rd_list ?_
  refine ro_nil ⟨Nat.le_of_ble_eq_true rfl, ?_⟩
  refine sd_norm (by walk_at "nrm") ?_
  refine sd_cons ?_
  refine s_forT (α := Int × List Int) (.one 4) [4] ?_ PassesOwn.never rfl (pg_name (i := 4) sc_law_stream.nd rfl (by first | exact .inl rfl | exact .inr rfl))
  refine ri_range1 T.m_range ?_
  refine ra_cons ?_
  first | refine rv_nF 1 rfl ?_ | refine rv_nO 1 rfl ?_  -- many
  refine ra_nil ?_
  refine ⟨_, rfl, by walk_at "cond", by walk_at "cond", ?_⟩
  have hc0 := Int.emod_nonneg c (show (2147483629 : Int) ≠ 0 by decide)
  have hc1 := Int.emod_lt_of_pos c (show (0 : Int) < 2147483629 by decide)
  refine ⟨fun k a => [(2, .fz (.int a.1)), (3, .ow (numsD a.2))], fun k a => (0 ≤ a.1 ∧ a.1 < 2147483647) ∧ a.2.length = k ∧ ∀ x ∈ a.2, 0 ≤ x, ⟨(c % 2147483629 + 7, []), ⟨by show 0 ≤ c % 2147483629 + 7 ∧ c % 2147483629 + 7 < 2147483647; omega, rfl, fun x hx => (nomatch hx)⟩, keep_intro rfl⟩, ?_, fun f a oa => ?_⟩
  · rintro k d f a he oa
    obtain ⟨rfl, hk⟩ := rng_get he
    obtain ⟨dr, xs⟩ := a
    obtain ⟨hdr, hxl, hx0⟩ := oa
    replace hdr : 0 ≤ dr ∧ dr < 2147483647 := hdr
    replace hxl : xs.length = k := hxl
    replace hx0 : ∀ x ∈ xs, 0 ≤ x := hx0
    refine ⟨_, rfl, rfl, ?_⟩
    refine sd_norm (by walk_at "nrm") ?_
    refine sd_cons ?_
    refine s_set 2 ?_ sc_law_stream.nd  -- drawn (s_setF: frozen)
    refine rd_ar ?_
    refine rv_of ?_
    refine rd_ar ?_
    refine rv_of ?_
    refine rd_ar ?_
    refine rv_of ?_
    refine rd_ar ?_
    first | refine rv_nF 2 rfl ?_ | refine rv_nO 2 rfl ?_  -- drawn
    first | refine rv_nF 2 rfl ?_ | refine rv_nO 2 rfl ?_  -- drawn
    refine ⟨_, _, rfl, by walk_at "cond", ?_⟩
    first | refine ⟨_, rfl, ?_⟩ | refine ⟨_, dat_nrm, ?_⟩
    refine rv_of ?_
    refine rd_ar ?_
    refine rv_int ?_
    first | refine rv_nF 2 rfl ?_ | refine rv_nO 2 rfl ?_  -- drawn
    refine ⟨_, _, rfl, by walk_at "cond", ?_⟩
    first | refine ⟨_, rfl, ?_⟩ | refine ⟨_, dat_nrm, ?_⟩
    refine ⟨_, _, rfl, by walk_at "cond", ?_⟩
    first | refine ⟨_, rfl, ?_⟩ | refine ⟨_, dat_nrm, ?_⟩
    first | refine rv_nF 4 rfl ?_ | refine rv_nO 4 rfl ?_  -- k
    refine ⟨_, _, rfl, by walk_at "cond", ?_⟩
    first | refine ⟨_, rfl, ?_⟩ | refine ⟨_, dat_nrm, ?_⟩
    refine rv_int ?_
    refine ⟨_, _, rfl, by walk_at "cond", ?_⟩
    refine sd_norm (by walk_at "nrm") ?_
    refine sd_cons ?_
    refine s_append (ks := []) ?_
    first | refine rd_nF 3 rfl ?_ | refine rd_nO 3 rfl ?_ | refine rd_nA 3 rfl ?_  -- found
    refine ⟨_, _, _, rfl, rfl, by rw [List.length_map]; show _ < 2 ^ 24; omega, by decide, ?_⟩
    refine rm_of ?_
    refine rd_ar ?_
    first | refine rv_nF 2 rfl ?_ | refine rv_nO 2 rfl ?_  -- drawn
    refine rv_int ?_
    refine ⟨_, _, rfl, by walk_at "cond", ?_⟩
    first | refine ⟨_, rfl, ?_⟩ | refine ⟨_, ⟨rfl, rfl⟩, ?_⟩
    refine sd_norm (by walk_at "nrm") ?_
    refine sd_nil ?_
    have hn0 := Int.emod_nonneg (dr * dr + 48271 * dr + (0 + (k : Int))) (show (2147483647 : Int) ≠ 0 by decide)
    have hn1 := Int.emod_lt_of_pos (dr * dr + 48271 * dr + (0 + (k : Int))) (show (0 : Int) < 2147483647 by decide)
    refine ⟨((dr * dr + 48271 * dr + (0 + (k : Int))) % 2147483647, xs ++ [(dr * dr + 48271 * dr + (0 + (k : Int))) % 2147483647 / 16]), ⟨⟨hn0, hn1⟩, ?_, ?_⟩, keep_intro ?_⟩
    · show (xs ++ [_]).length = k + 1
      rw [List.length_append, hxl]
      rfl
    · intro x hx
      rcases List.mem_append.mp hx with hx | hx
      · exact hx0 x hx
      · rw [List.mem_singleton.mp hx]
        omega
    · simp only [numsD, List.map_append, List.map_cons, List.map_nil]
      rfl
  refine sd_norm (by walk_at "nrm") ?_
  refine sd_wipe [4] ?_
  obtain ⟨dr, xs⟩ := a
  obtain ⟨_, hxl, hx0⟩ := oa
  rw [rngD_len] at hxl
  refine sd_norm (by walk_at "nrm") ?_
  refine sd_cons ?_
  refine s_ret ?_
  first | refine rd_nF 3 rfl ?_ | refine rd_nO 3 rfl ?_ | refine rd_nA 3 rfl ?_  -- found
  refine ⟨_, rfl, ?_⟩
  exact ⟨_, .inl rfl, c, m, xs, rfl, rfl, hxl, hx0⟩
def P_law_divisor (ds : List PyData) (d : PyData) : Prop := ∃ a b : Int, ds = [.int a, .int b] ∧ 0 ≤ a ∧ 0 ≤ b ∧ d = .int (Int.gcd a b)
theorem ok_law_divisor (T : Txt K mg) : FnC P0 w K mg base "_law_divisor" 1 P_law_divisor := by
  refine fn_C T.f_law_divisor sc_law_divisor (fun ds d ⟨a, b, e, _⟩ => by rw [e]; rfl) (fun f cdv A outer s H E hr ds d ⟨a, b, hds, ha, hb0, hd⟩ => ?_)
  subst hds hd
  refine sd_norm (by walk_at "nrm") ?_
  refine sd_cons (s_while (fun m ρ => ∃ x y : Int, ρ = [.fz (.int x), .fz (.int y)] ∧ 0 ≤ x ∧ 0 ≤ y ∧ m = y.toNat ∧ Int.gcd x y = Int.gcd a b) b.toNat ⟨a, b, rfl, ha, hb0, rfl, rfl⟩ ?_ PassesOwn.never)
  rintro m ρ' ⟨x, y, rfl, hx, hy, rfl, hg⟩
  refine rt_cmp (hu65 hr) (rv_nF 1 rfl (rv_int ⟨_, _, rfl, trivial, fun hb => ?_, fun hb => ?_⟩))
  · have hb := of_decide_eq_true hb
    have hm1 := Int.emod_nonneg x (show y ≠ 0 by omega)
    have hm2 := Int.emod_lt_of_pos x hb
    refine sd_norm (by walk_at "nrm") ?_
    refine sd_cons (s_par 0 1 (rfa_cons (rf_of (rd_nF 1 rfl ⟨_, rfl, rfa_cons (rf_of (rd_ar (rv_nF 0 rfl (rv_nF 1 rfl ⟨_, _, rfl, hb, ?_⟩))))⟩))) rfl sc_law_divisor.nd)
    refine ⟨_, rfl, rfa_nil ⟨_, _, rfl, sd_nil ⟨(x % y).toNat, by omega, _, _, rfl, hy, hm1, rfl, ?_⟩⟩⟩
    rw [← hg]
    exact gcd_step x y hx hb
  · have hb := of_decide_eq_false hb
    have hy0 : y = 0 := by omega
    refine sd_norm (by walk_at "nrm") ?_
    refine sd_cons (s_ret (rd_nF 0 rfl ⟨_, rfl, .inr ⟨?_, rfl⟩⟩))
    subst hy0
    rw [← hg]
    simp
    omega
def P_law_place (ds : List PyData) (d : PyData) : Prop := ∃ (o : List Int) (n : Nat) (x : Int), ds = [numsD o, .int n, .int x] ∧ d = .int (DL.placeQ o n x)
theorem ok_law_place (T : Txt K mg) : FnC P0 w K mg base "_law_place" 1 P_law_place := by
  refine fn_C T.f_law_place sc_law_place (fun ds d ⟨o, n, x, e, _⟩ => by rw [e]; rfl) (fun f cdv A outer s H E hr ds d ⟨o, n, x, hds, hd⟩ => ?_)
  subst hds hd
  have hany : (o.map PyData.int).any (fun y => PyData.eqv y (.int x)) = decide (x ∈ o) := anyD_ints o x
  refine sd_norm (by walk_at "nrm") ?_
  refine sd_cons <| s_if <| rt_cmp (hu65 hr) <| rv_nF 2 rfl <| rv_nF 0 rfl ⟨_, _, rfl, Nat.le_trans (Nat.min_le_right _ _) (Nat.le_of_ble_eq_true rfl), fun hb => ?_, fun hb => ?_⟩
  · rw [hany] at hb
    have hb := of_decide_eq_true hb
    have hix := List.idxOf_lt_length_of_mem hb
    refine sd_norm (by walk_at "nrm") ?_
    refine sd_cons <| s_ret <| rd_index <| rv_nF 0 rfl ⟨o, rfl, rv_nF 2 rfl ⟨x, o.idxOf x, rfl, ?_, fun m hm => ?_, _, rfl, .inr ⟨?_, rfl⟩⟩⟩
    · rw [List.getElem?_eq_getElem hix, List.getElem_idxOf hix]
    · intro e
      obtain ⟨h1, h2⟩ := List.getElem?_eq_some_iff.mp e
      have := List.not_of_lt_findIdx (p := (· == x)) (xs := o) hm
      rw [h2] at this
      rw [beq_self_eq_true] at this
      cases this
    · unfold DL.placeQ
      rw [if_pos hb]
  rw [hany] at hb
  have hb := of_decide_eq_false hb
  refine sd_norm (by walk_at "nrm") ?_
  refine sd_nil ?_
  refine sd_norm (by walk_at "nrm") ?_
  refine sd_norm (by walk_at "nrm") ?_
  refine sd_cons <| s_if <| rt_cmp (hu65 hr) <| rv_nF 2 rfl <| rv_nF 1 rfl ⟨_, _, rfl, trivial, fun h1 => ?_, fun h1 => ?_⟩
  · refine sd_norm (by walk_at "nrm") ?_
    refine sd_cons <| s_ret <| rd_len T.m_len <| rv_nF 0 rfl ⟨_, _, rfl, trivial, _, rfl, .inr ⟨?_, rfl⟩⟩
    unfold DL.placeQ
    rw [if_neg hb, if_pos (of_decide_eq_true h1), List.length_map]
  refine sd_norm (by walk_at "nrm") ?_
  refine sd_nil ?_
  refine sd_norm (by walk_at "nrm") ?_
  refine sd_norm (by walk_at "nrm") ?_
  refine sd_cons <| s_ret <| rd_ar <| rv_of <| rd_ar <| rv_of <| rd_len T.m_len <| rv_nF 0 rfl ⟨_, _, rfl, trivial, _, rfl, rv_int ⟨_, _, rfl, trivial, _, rfl, rv_nF 2 rfl ⟨_, _, rfl, trivial, _, rfl, .inr ⟨?_, rfl⟩⟩⟩⟩
  unfold DL.placeQ
  rw [if_neg hb, if_neg (of_decide_eq_false h1), List.length_map]
def P_law_told (ds : List PyData) (d : PyData) : Prop := ∃ tss : List (List Int), ds = [tupsN tss, tupsN tss] ∧ (∀ t ∈ tss, t.length = 2) ∧ d = .bool true
theorem ok_law_told (T : Txt K mg) : FnC P0 w K mg base "_law_told" 1 P_law_told := by
  refine fn_C T.f_law_told sc_law_told (fun ds d ⟨tss, e, _⟩ => by rw [e]; rfl) (fun f cdv A outer s H E hr ds d ⟨tss, hds, h2, hd⟩ => ?_)
  subst hds hd
  refine sd_norm (by walk_at "nrm") ?_
  refine sd_cons ?_
  refine s_ifF ?_ ?_
  · refine rt_bool ?_
    refine rw_orF ?_ ?_
    · refine rt_notK ?_
      refine rt_val ?_
      exact rv_of <| rd_isinst (T := "list") T.m_isinstance T.m_list (by decide +kernel) <| rv_nF 0 rfl ⟨_, rfl, _, rfl, _, rfl, rfl⟩
    refine rw_or1 ?_
    exact rt_nsame (hu65 hr) <| rv_of <| rd_len T.m_len <| rv_nF 0 rfl ⟨_, _, rfl, trivial, _, rfl, rv_of <| rd_len T.m_len <| rv_nF 1 rfl ⟨_, _, rfl, trivial, _, rfl, rfl, pl_int, rfl⟩⟩
  refine sd_norm (by walk_at "nrm") ?_
  refine sd_nil ?_
  refine sd_norm (by walk_at "nrm") ?_
  refine sd_norm (by walk_at "nrm") ?_
  refine sd_cons ?_
  refine s_forC (.tup [2, 3]) [2, 3] ?_ PassesOwn.never rfl (pg_tup rfl (pgs_cons (pg_name (i := 2) sc_law_told.nd rfl (by first | exact .inl rfl | exact .inr rfl)) (pgs_cons (pg_name (i := 3) sc_law_told.nd rfl (by first | exact .inl rfl | exact .inr rfl)) pgs_nil)))
  refine ri_zip T.m_zip <| rfa_cons <| rf_of <| rd_nF 0 rfl ⟨_, rfl, rfa_cons <| rf_of <| rd_nF 1 rfl ⟨_, rfl, rfa_nil ⟨_, _, rfl, ?_⟩⟩⟩
  refine ⟨keep_intro rfl, ?_, fun f => ?_⟩
  · rintro k d f he
    obtain ⟨x, y, hx, hy, rfl⟩ := zipD_get he
    rw [hx] at hy
    cases hy
    obtain ⟨t, ht, rfl⟩ := get_map hx
    have hl := h2 t (List.mem_of_getElem? ht)
    obtain ⟨b, z, rfl⟩ : ∃ b z, t = [b, z] := by
      match t, hl with
      | [b, z], _ => exact ⟨b, z, rfl⟩
    refine ⟨_, rfl, rfl, ?_⟩
    refine sd_norm (by walk_at "nrm") ?_
    refine sd_norm (by walk_at "nrm") ?_
    refine sd_cons ?_
    refine s_ifF ?_ ?_
    · refine rt_bool ?_
      refine rw_orF ?_ ?_
      · refine rt_notK ?_
        refine rt_val ?_
        exact rv_of <| rd_isinst (T := "tuple") T.m_isinstance T.m_tuple (by decide +kernel) <| rv_nF 2 rfl ⟨_, rfl, _, rfl, _, rfl, rfl⟩
      refine rw_orF ?_ ?_
      · exact rt_nsame (hu65 hr) <| rv_of <| rd_len T.m_len <| rv_nF 2 rfl ⟨_, _, rfl, trivial, _, rfl, rv_int ⟨rfl, pl_int, rfl⟩⟩
      refine rw_or1 ?_
      exact rt_nsame (hu65 hr) <| rv_nF 2 rfl <| rv_nF 3 rfl ⟨rfl, pl_tup (n := 59) fun u hu => (by
        obtain ⟨i, _, rfl⟩ := List.mem_map.mp hu
        exact pl_int), rfl⟩
    refine sd_norm (by walk_at "nrm") ?_
    refine sd_nil ?_
    refine sd_norm (by walk_at "nrm") ?_
    refine sd_norm (by walk_at "nrm") ?_
    refine sd_cons ?_
    refine s_ifF ?_ ?_
    · refine rt_bool ?_
      refine rw_orF ?_ ?_
      · refine rt_val ?_
        exact rv_of <| rd_isinst (T := "bool") T.m_isinstance T.m_bool (by decide +kernel) <| rv_of <| rd_ix <| rd_nF 2 rfl <| rv_int ⟨_, rfl, _, rfl, _, rfl, _, rfl, _, rfl, _, rfl, rfl⟩
      refine rw_or1 ?_
      refine rt_val ?_
      exact rv_of <| rd_isinst (T := "bool") T.m_isinstance T.m_bool (by decide +kernel) <| rv_of <| rd_ix <| rd_nF 2 rfl <| rv_int ⟨_, rfl, _, rfl, _, rfl, _, rfl, _, rfl, _, rfl, rfl⟩
    refine sd_norm (by walk_at "nrm") ?_
    exact sd_nil (sd_nil (keep_intro rfl))
  refine sd_norm (by walk_at "nrm") ?_
  refine sd_wipe [2, 3] ?_
  refine sd_norm (by walk_at "nrm") ?_
  refine sd_norm (by walk_at "nrm") ?_
  exact sd_cons <| s_ret <| rd_bl ⟨_, rfl, .inr ⟨rfl, rfl⟩⟩
def A_law_order (ds : List PyData) : Prop := ∃ (c : Int) (n : Nat), ds = [.int c, .int n] ∧ n ≤ 900
def R_law_order (ds : List PyData) (d : PyData) : Prop := ∃ (c : Int) (n : Nat) (o : List Int), ds = [.int c, .int n] ∧ d = numsD o ∧ OrdQ n o
theorem ok_law_order (T : Txt K mg) : FnN P0 w K mg base "_law_order" 2 A_law_order R_law_order := by
  refine fn_N T.f_law_order sc_law_order (fun ds ⟨c, n, e, _⟩ => by rw [e]; rfl) (fun f cdv A outer s H E hr ds ⟨c, n, hds, hn⟩ => ?_)
  subst hds
  refine sd_norm (by walk_at "nrm") ?_
  refine sd_cons (s_setF 2 (rd_callN (callN (ok_law_stream T) hr) (ra_cons (rv_of (rd_ar (rv_nF 0 rfl (rv_int ⟨_, _, rfl, cdiv_s (by decide) (by decide), _, rfl, ra_cons (rv_of (rd_ar (rv_nF 1 rfl (rv_int ⟨_, _, rfl, trivial, _, rfl, ra_nil ⟨⟨_, n + 2, rfl, by omega⟩, fun d hpost => ?_⟩⟩))))⟩)))))) sc_law_order.nd)
  obtain ⟨_, _, xs, hds, rfl, hxl, hx0⟩ := hpost
  have hxl : xs.length = n + 2 := by
    have : (n : Int) + 2 = ((n + 2 : Nat) : Int) := by omega
    simp only [List.cons.injEq, PyData.int.injEq, and_true] at hds
    omega
  refine ⟨_, rfl, ?_⟩
  refine sd_norm (by walk_at "nrm") ?_
  refine sd_cons ?_
  refine s_set 3 ?_ sc_law_order.nd  -- left (s_setF: frozen)
  refine rd_listRg rfl T.m_list T.m_range ?_
  first | refine rv_nF 1 rfl ?_ | refine rv_nO 1 rfl ?_  -- many
  refine ⟨_, rfl, by walk_at "cond", ?_⟩
  refine sd_norm (by walk_at "nrm") ?_
  refine sd_cons ?_
  refine s_set 4 ?_ sc_law_order.nd  -- order (s_setF: frozen)
  refine rd_list ?_
  refine ro_nil ⟨Nat.le_of_ble_eq_true rfl, ?_⟩
  refine sd_norm (by walk_at "nrm") ?_
  refine sd_cons ?_
  refine s_forT (α := List Int × List Int) (.one 5) [5] ?_ PassesOwn.never rfl (pg_name (i := 5) sc_law_order.nd rfl (by first | exact .inl rfl | exact .inr rfl))
  refine ri_range1 T.m_range ?_
  refine ra_cons ?_
  first | refine rv_nF 1 rfl ?_ | refine rv_nO 1 rfl ?_  -- many
  refine ra_nil ?_
  refine ⟨_, rfl, by walk_at "cond", by walk_at "cond", ?_⟩
  refine ⟨fun k a => [(3, .ow (numsD a.1)), (4, .ow (numsD a.2))], fun k a => a.1.length + k = n ∧ a.2.length = k ∧ (a.2 ++ a.1).Nodup ∧ ∀ x ∈ a.2 ++ a.1, 0 ≤ x ∧ x < (n : Int), ⟨(rng n, []), ⟨by rw [rng_len]; rfl, rfl, rng_nodup n, fun x hx => rng_mem.mp hx⟩, keep_intro rfl⟩, ?_, fun f a oa => ?_⟩
  · rintro k d f a he oa
    obtain ⟨rfl, hk⟩ := rng_get he
    obtain ⟨left, order⟩ := a
    obtain ⟨h1, h2, h3, h4⟩ := oa
    replace h1 : left.length + k = n := h1
    replace h2 : order.length = k := h2
    replace h3 : (order ++ left).Nodup := h3
    replace h4 : ∀ x ∈ order ++ left, 0 ≤ x ∧ x < (n : Int) := h4
    have hkn : k < n := by omega
    have hl0 : 0 < left.length := by omega
    have hat := atI_nums (xs := xs) (k := k) (by omega)
    generalize hv : xs.getD k 0 = v at *
    have ha0 := Int.emod_nonneg v (show (left.length : Int) ≠ 0 by omega)
    have ha1 := Int.emod_lt_of_pos v (show 0 < (left.length : Int) by omega)
    have hm : (v % (left.length : Int)).toNat < left.length := by omega
    refine ⟨_, rfl, rfl, ?_⟩
    rw [Int.zero_add]
    refine sd_norm (by walk_at "nrm") ?_
    refine sd_norm (by walk_at "nrm") ?_
    refine sd_cons <| s_rsAppend <| rd_nO 4 rfl ⟨_, rfl, ⟨_, rfl⟩, rs_popAt <| rd_nO 3 rfl ⟨_, _, _, rfl, rfl, rv_of <| rd_ar <| rv_of <| rd_ix <| rd_nF 2 rfl <| rv_nF 5 rfl ⟨_, rfl, _, hat, _, rfl, rv_of <| rd_len T.m_len <| rv_nO 3 rfl ⟨_, _, rfl, trivial, _, rfl, _, _, rfl, by rw [List.length_map]; omega, _, rfl, ?_⟩⟩⟩⟩
    rw [List.length_map]
    refine ⟨_, (v % (left.length : Int)).toNat, .int left[(v % (left.length : Int)).toNat], rfl, by omega, seqIndex_of ha0 ha1, ?_, rfl, ?_⟩
    · rw [List.getElem?_map, List.getElem?_eq_getElem hm]
      rfl
    refine ⟨_, rfl, by rw [List.length_map]; show _ < 2 ^ 24; omega, ?_⟩
    have hp : (left[(v % (left.length : Int)).toNat] :: left.eraseIdx (v % (left.length : Int)).toNat).Perm left := perm_erase left _ hm
    have hp2 : ((order ++ [left[(v % (left.length : Int)).toNat]]) ++ left.eraseIdx (v % (left.length : Int)).toNat).Perm (order ++ left) := by
      rw [List.append_assoc]
      exact hp.append_left order
    have he : (left.map PyData.int).eraseIdx (v % (left.length : Int)).toNat = (left.eraseIdx (v % (left.length : Int)).toNat).map PyData.int := erase_map _ _ _
    refine sd_norm (by walk_at "nrm") ?_
    refine sd_nil ⟨(left.eraseIdx (v % (left.length : Int)).toNat, order ++ [left[(v % (left.length : Int)).toNat]]), ⟨?_, ?_, hp2.nodup_iff.mpr h3, fun x hx => h4 x (hp2.mem_iff.mp hx)⟩, keep_intro (by rw [he]; simp only [numsD, List.map_append, List.map_cons, List.map_nil]; rfl)⟩
    · show (left.eraseIdx _).length + (k + 1) = n
      rw [List.length_eraseIdx_of_lt hm]
      omega
    · show (order ++ [_]).length = k + 1
      rw [List.length_append, List.length_singleton, h2]
  refine sd_norm (by walk_at "nrm") ?_
  refine sd_wipe [5] ?_
  obtain ⟨left, order⟩ := a
  obtain ⟨h1, h2, h3, h4⟩ := oa
  have hO : OrdQ n order := ⟨(List.nodup_append.mp h3).1, fun x hx => h4 x (List.mem_append_left _ hx)⟩
  have hat1 := atI_nums (xs := xs) (k := n) (by omega)
  have hat2 := atI_nums (xs := xs) (k := n + 1) (by omega)
  have hx1 := hx0 _ (mem_getD (xs := xs) (k := n + 1) (by omega))
  generalize xs.getD (n + 1) 0 = v at *
  have hv1 := Int.emod_nonneg v (show (n : Int) + 1 ≠ 0 by omega)
  obtain ⟨q, hq⟩ : ∃ q : Nat, v % ((n : Int) + 1) = q := ⟨(v % ((n : Int) + 1)).toNat, by omega⟩
  refine sd_norm (by walk_at "nrm") ?_
  refine sd_norm (by walk_at "nrm") ?_
  refine sd_join (fun ρ => ∃ o e5, OrdQ n o ∧ ρ = [.fz (.int c), .fz (.int n), .fz (numsD xs), .ow (numsD left), .ow (numsD o), e5]) ?_ ?_
  · refine s_if <| rt_cmp (hu65 hr) <| rv_of <| rd_ar <| rv_of <| rd_ix <| rd_nF 2 rfl <| rv_nF 1 rfl ⟨_, rfl, _, hat1, _, rfl, rv_int ⟨_, _, rfl, by decide, _, rfl, rv_int ⟨_, _, rfl, trivial, fun hb => ?_, fun hb => ?_⟩⟩⟩
    · refine sd_norm (by walk_at "nrm") ?_
      refine sd_cons <| s_set (hN := sc_law_order.nd) 4 <| rd_slice <| rd_nO 4 rfl <| rp_none <| rp_some <| rv_of <| rd_ar <| rv_of <| rd_ix <| rd_nF 2 rfl <| rv_of <| rd_ar <| rv_nF 1 rfl <| rv_int ⟨_, _, rfl, trivial, _, rfl, _, rfl, _, hat2, _, rfl, rv_of <| rd_ar <| rv_nF 1 rfl <| rv_int ⟨_, _, rfl, trivial, _, rfl, _, _, rfl, by omega, _, rfl, _, rfl, ?_⟩⟩
      rw [hq]
      refine ⟨_, rfl, .inl ⟨lfs_ints _, ?_⟩⟩
      rw [cut_hi, ← List.map_take]
      refine sd_norm (by walk_at "nrm") ?_
      refine sd_nil ⟨order.take q, _, hO.take q, rfl⟩
    · refine sd_norm (by walk_at "nrm") ?_
      refine sd_nil ⟨order, _, hO, rfl⟩
  rintro ρ ⟨o, e5, hO, rfl⟩
  refine sd_norm (by walk_at "nrm") ?_
  refine sd_cons (s_ret (rd_nO 4 rfl ⟨_, rfl, _, .inl rfl, c, n, o, rfl, rfl, hO⟩))
def A_law_counts (ds : List PyData) : Prop := ∃ (c : Int) (n : Nat), ds = [.int c, .int n] ∧ n ≤ 900
def R_law_counts (ds : List PyData) (d : PyData) : Prop := ∃ (c : Int) (n : Nat) (cs : List Int), ds = [.int c, .int n] ∧ d = numsD cs ∧ cs.length = n ∧ ∀ x ∈ cs, 0 ≤ x ∧ x ≤ 9
theorem ok_law_counts (T : Txt K mg) : FnN P0 w K mg base "_law_counts" 2 A_law_counts R_law_counts := by
  refine fn_N T.f_law_counts sc_law_counts (fun ds ⟨c, n, e, _⟩ => by rw [e]; rfl) (fun f cdv A outer s H E hr ds ⟨c, n, hds, hn⟩ => ?_)
  subst hds
  refine sd_norm (by walk_at "nrm") ?_
  refine sd_cons <| s_set (hN := sc_law_counts.nd) 2 <| rd_list <| ro_nil ⟨Nat.le_of_ble_eq_true rfl, ?_⟩
  refine sd_norm (by walk_at "nrm") ?_
  refine sd_norm (by walk_at "nrm") ?_
  refine sd_cons ?_
  refine s_forT (α := List Int) (.one 3) [3] ?_ PassesOwn.never rfl (pg_name (i := 3) sc_law_counts.nd rfl (by first | exact .inl rfl | exact .inr rfl))
  refine ri_list <| rf_of <| rd_callN (callN (ok_law_stream T) hr) <| ra_cons <| rv_nF 0 rfl <| ra_cons <| rv_nF 1 rfl <| ra_nil ⟨⟨c, n, rfl, by omega⟩, ?_⟩
  rintro d ⟨c', n', xs, he2, rfl, hxl, hx0⟩
  have hnn : n' = n := by
    simp only [List.cons.injEq, PyData.int.injEq, and_true] at he2
    omega
  subst hnn
  refine ⟨_, rfl, _, rfl, ?_⟩
  refine ⟨fun k cs => [(2, .ow (numsD cs))], fun k cs => cs.length = k ∧ ∀ x ∈ cs, 0 ≤ x ∧ x ≤ 9, ⟨[], ⟨rfl, fun o ho => (nomatch ho)⟩, keep_intro rfl⟩, ?_, fun f cs oa => ?_⟩
  · rintro k d f cs he ⟨hl, hO⟩
    obtain ⟨v, hv, rfl⟩ := get_map he
    have hk := (List.getElem?_eq_some_iff.mp hv).1
    have hv0 := hx0 v (List.mem_of_getElem? hv)
    have h1 := Int.emod_nonneg v (show (8 : Int) ≠ 0 by decide)
    have h2 := Int.emod_lt_of_pos v (show (0 : Int) < 8 by decide)
    have h3 := Int.emod_nonneg (v / 8) (show (10 : Int) ≠ 0 by decide)
    have h4 := Int.emod_lt_of_pos (v / 8) (show (0 : Int) < 10 by decide)
    have hat := atI_map [1, 1, 0, 2, 1, 3, 1, v / 8 % 10] PyData.int 0 (v % 8) h1 (by show _ < (8 : Int); omega)
    have hmem := mem_getD (xs := [1, 1, 0, 2, 1, 3, 1, v / 8 % 10]) (k := (v % 8).toNat) (by show _ < 8; omega)
    generalize [1, 1, 0, 2, 1, 3, 1, v / 8 % 10].getD (v % 8).toNat 0 = z at *
    have hz : 0 ≤ z ∧ z ≤ 9 := by
      simp only [List.mem_cons, List.not_mem_nil, or_false] at hmem
      omega
    refine ⟨_, rfl, rfl, ?_⟩
    refine sd_norm (by walk_at "nrm") ?_
    refine sd_norm (by walk_at "nrm") ?_
    refine sd_cons <| s_append (ks := []) <| rd_nO 2 rfl ⟨_, _, _, rfl, rfl, by rw [List.length_map]; show _ < 2 ^ 24; omega, by decide, rm_of <| rd_ix <| rd_list <| ro_cons <| rd_int ⟨_, ⟨rfl, rfl⟩, ro_cons <| rd_int ⟨_, ⟨rfl, rfl⟩, ro_cons <| rd_int ⟨_, ⟨rfl, rfl⟩, ro_cons <| rd_int ⟨_, ⟨rfl, rfl⟩, ro_cons <| rd_int ⟨_, ⟨rfl, rfl⟩, ro_cons <| rd_int ⟨_, ⟨rfl, rfl⟩, ro_cons <| rd_int ⟨_, ⟨rfl, rfl⟩, ro_cons <| rd_ar <| rv_of <| rd_ar <| rv_nF 3 rfl <| rv_int ⟨_, _, rfl, cdiv_s (by decide) (by decide), _, rfl, rv_int ⟨_, _, rfl, by decide, _, ⟨rfl, rfl⟩, ro_nil ⟨Nat.le_of_ble_eq_true rfl, rv_of <| rd_ar <| rv_nF 3 rfl <| rv_int ⟨_, _, rfl, by decide, _, rfl, _, rfl, _, hat, ?_⟩⟩⟩⟩⟩⟩⟩⟩⟩⟩⟩⟩
    refine ⟨_, ⟨rfl, rfl⟩, ?_⟩
    refine sd_norm (by walk_at "nrm") ?_
    refine sd_nil ⟨cs ++ [z], ⟨by rw [List.length_append, hl]; rfl, fun x hx => ?_⟩, keep_intro ?_⟩
    · rcases List.mem_append.mp hx with hx | hx
      · exact hO x hx
      · rw [List.mem_singleton.mp hx]
        exact hz
    · simp only [numsD, List.map_append, List.map_cons, List.map_nil]
      rfl
  refine sd_norm (by walk_at "nrm") ?_
  refine sd_wipe [3] ?_
  refine sd_norm (by walk_at "nrm") ?_
  refine sd_norm (by walk_at "nrm") ?_
  refine sd_cons <| s_ret <| rd_nO 2 rfl ⟨_, rfl, _, .inl rfl, c, _, cs, rfl, rfl, by rw [oa.1, List.length_map, hxl], oa.2⟩
def P_law_lowest (ds : List PyData) (d : PyData) : Prop := ∃ a b : Int, ds = [.int a, .int b] ∧ 0 < b ∧ Sm b ∧ d = frQ (Rat.divInt a b)
theorem ok_law_lowest (T : Txt K mg) : FnC P0 w K mg base "_law_lowest" 2 P_law_lowest := by
  refine fn_C T.f_law_lowest sc_law_lowest (fun ds d ⟨a, b, e, _⟩ => by rw [e]; rfl) (fun f cdv A outer s H E hr ds d ⟨a, b, hds, hb, hsb, hd⟩ => ?_)
  subst hds hd
  have g0 : 0 < Int.gcd a b := Int.gcd_pos_of_ne_zero_right _ (by omega)
  have sg : Sm (Int.gcd a b : Nat) := hsb.dvd (by omega) (Int.gcd_dvd_right ..)
  have h := frac_pos (a := a) hb
  have ha : 0 ≤ (if a < 0 then -a else a) := by split <;> omega
  have e1 : Int.gcd (if a < 0 then -a else a) b = Int.gcd a b := by
    unfold Int.gcd
    congr 1
    split <;> omega
  refine sd_norm (by walk_at "nrm") ?_
  refine sd_cons <| s_set (hN := sc_law_lowest.nd) 2 <| rd_call (callC (ok_law_divisor T) hr) <| ra_cons <| rv_of <| rd_abs T.m_abs <| ra_cons <| rv_nF 0 rfl <| ra_nil ⟨a, rfl, _, rfl, ra_cons <| rv_nF 1 rfl <| ra_nil ⟨_, ⟨_, _, rfl, ha, by omega, by rw [e1]⟩, ?_⟩⟩
  refine sd_norm (by walk_at "nrm") ?_
  refine sd_cons <| s_ret <| rd_tuple <| ro_cons <| rd_ar <| rv_nF 0 rfl <| rv_nF 2 rfl ⟨_, _, rfl, sg.div (by omega), _, ⟨rfl, rfl⟩, ro_cons <| rd_ar <| rv_nF 1 rfl <| rv_nF 2 rfl ⟨_, _, rfl, sg.div (by omega), _, ⟨rfl, rfl⟩, ro_nil ⟨Nat.le_of_ble_eq_true rfl, _, rfl, ?_⟩⟩⟩
  rw [h.1, h.2]
  exact .inr ⟨rfl, rfl⟩
def A_law_turn_deal (ds : List PyData) : Prop := ∃ (c : Int) (cs : List Int) (os : List (List Int)), ds = [.int c, numsD cs, rowsD os] ∧ cs.length ≤ 6 ∧ (∀ x ∈ cs, 0 ≤ x ∧ x ≤ 9) ∧ os.length ≤ 6 ∧ ∀ o ∈ os, OrdQ cs.length o
def R_law_turn_deal (ds : List PyData) (d : PyData) : Prop := ∃ (c : Int) (cs : List Int) (os : List (List Int)) (dl : List Int), ds = [.int c, numsD cs, rowsD os] ∧ d = numsD dl ∧ DealQ cs os.length dl
theorem ok_law_turn_deal (T : Txt K mg) : FnN P0 w K mg base "_law_turn_deal" 2 A_law_turn_deal R_law_turn_deal := by
  refine fn_N T.f_law_turn_deal sc_law_turn_deal (fun ds ⟨c, cs, os, e, _⟩ => by rw [e]; rfl) (fun f cdv A outer s H E hr ds ⟨c, cs, os, hds, hn, hcb, ho6, hO⟩ => ?_)
  subst hds
  refine sd_norm (by walk_at "nrm") ?_
  refine sd_cons <| s_setF (hN := sc_law_turn_deal.nd) 3 <| rd_callN (callN (ok_law_stream T) hr) <| ra_cons <| rv_of <| rd_ar <| rv_nF 0 rfl <| rv_int ⟨_, _, rfl, cdiv_s (by decide) (by decide), _, rfl, ra_cons <| rv_of <| rd_ar <| rv_of <| rd_len T.m_len <| rv_nF 2 rfl ⟨_, _, rfl, trivial, _, rfl, rv_int ⟨_, _, rfl, trivial, _, rfl, ra_nil ⟨⟨_, os.length + 1, by rw [List.length_map]; rfl, by omega⟩, ?_⟩⟩⟩⟩
  rintro d ⟨_, m, xs, hds, rfl, hxl, hx0⟩
  have hxl : xs.length = os.length + 1 := by
    simp only [List.cons.injEq, PyData.int.injEq, and_true, List.length_map] at hds
    omega
  clear hds
  refine ⟨_, rfl, ?_⟩
  refine sd_norm (by walk_at "nrm") ?_
  refine sd_norm (by walk_at "nrm") ?_
  refine sd_cons <| s_set (hN := sc_law_turn_deal.nd) 4 <| rd_listRg rfl T.m_list T.m_range <| rv_of <| rd_len T.m_len <| rv_nF 2 rfl ⟨_, _, rfl, trivial, _, rfl, os.length, by rw [List.length_map], by omega, ?_⟩
  refine sd_norm (by walk_at "nrm") ?_
  refine sd_norm (by walk_at "nrm") ?_
  refine sd_cons <| s_set (hN := sc_law_turn_deal.nd) 5 <| rd_listof T.m_list <| ra_cons <| rv_nF 1 rfl <| ra_nil ⟨_, .inl rfl, lfs_ints _, ?_⟩
  refine sd_norm (by walk_at "nrm") ?_
  refine sd_norm (by walk_at "nrm") ?_
  refine sd_cons ?_
  refine s_lc 6 (own := [("order", 7)]) (.one 7) os numsD (fun o => [numsD o]) (fun _ => .int cs.length) rfl sc_law_turn_deal.nd (blkOk_by rfl) (fun _ _ _ _ _ => pg_name (i := 7) sc_law_turn_deal.nd rfl (by first | exact .inl rfl | exact .inr rfl)) ?_ ?_ ?_ ?_ ?_
  · exact ri_list <| rf_of <| rd_nF 2 rfl ⟨_, rfl, _, rfl, rfl⟩
  · show _ ≤ 2 ^ 24; omega
  · exact fun a ha => rfl
  · intro j hj s H C cl fp
    refine rd_len T.m_len <| rv_nF 1 rfl ⟨_, _, rfl, trivial, ?_⟩
    rw [List.length_map]
    exact ⟨rfl, rfl⟩
  rw [show PyData.list (os.map fun _ => PyData.int (cs.length : Int)) = numsD (List.replicate os.length (cs.length : Int)) by rw [numsD, List.map_replicate, List.map_const']]
  refine sd_norm (by walk_at "nrm") ?_
  refine sd_wipe [7] ?_
  refine sd_norm (by walk_at "nrm") ?_
  refine sd_norm (by walk_at "nrm") ?_
  refine sd_cons ?_
  refine s_forT (α := List Int × List Int × List Int) (.one 8) [8, 9, 10, 11] ?_ PassesOwn.never rfl (pg_name (i := 8) sc_law_turn_deal.nd rfl (by first | exact .inl rfl | exact .inr rfl))
  refine ri_range1 T.m_range <| ra_cons <| rv_of <| rd_len T.m_len <| rv_nF 2 rfl ⟨_, _, rfl, trivial, _, rfl, ra_nil ⟨(os.length : Nat), by rw [List.length_map], by omega, by omega, ?_⟩⟩
  refine ⟨fun k x => [(4, .ow (numsD x.1)), (5, .ow (numsD x.2.1)), (6, .ow (numsD x.2.2))], fun k x => (x.1.length + k = os.length ∧ ∀ y ∈ x.1, 0 ≤ y ∧ y < (os.length : Int)) ∧ DInv cs os.length x.2.1 x.2.2, ⟨(rng os.length, cs, List.replicate os.length (cs.length : Int)), ⟨⟨by rw [rng_len]; rfl, fun y hy => rng_mem.mp hy⟩, DInv.start hcb⟩, keep_intro rfl⟩, ?_, fun f x oa => ?_⟩
  · rintro k d f ⟨ask, left, dl⟩ he oa
    obtain ⟨rfl, hk⟩ := rng_get he
    obtain ⟨⟨h1, h2⟩, I⟩ := oa
    replace h1 : ask.length + k = os.length := h1
    replace h2 : ∀ y ∈ ask, 0 ≤ y ∧ y < (os.length : Int) := h2
    replace I : DInv cs os.length left dl := I
    have hka : k < os.length := by omega
    have hat := atI_nums (xs := xs) (k := k) (by omega)
    generalize xs.getD k 0 = v at *
    have ha0 := Int.emod_nonneg v (show (ask.length : Int) ≠ 0 by omega)
    have ha1 := Int.emod_lt_of_pos v (show 0 < (ask.length : Int) by omega)
    have hm : (v % (ask.length : Int)).toNat < ask.length := by omega
    obtain ⟨i, hi⟩ : ∃ i : Nat, ask[(v % (ask.length : Int)).toNat] = i := ⟨ask[(v % (ask.length : Int)).toNat].toNat, by have := h2 _ (List.getElem_mem hm); omega⟩
    have hio : i < os.length := by have := h2 _ (List.getElem_mem hm); omega
    obtain ⟨o, ho⟩ : ∃ o, os[i]? = some o := ⟨_, List.getElem?_eq_getElem hio⟩
    have hato : atI (os.map numsD) (i : Int) = some (numsD o) := atI_nat (by rw [List.getElem?_map, ho]; rfl)
    obtain ⟨o2, ho2, hato2⟩ : ∃ o2, o2 ∈ os ∧ atI (os.map numsD) ((i : Int) - 1) = some (numsD o2) := by
      by_cases h0 : i = 0
      · subst h0
        have hne : os ≠ [] := fun z => by rw [z] at hio; exact absurd hio (Nat.lt_irrefl 0)
        refine ⟨os.getLast hne, List.getLast_mem hne, ?_⟩
        have e := (List.dropLast_concat_getLast hne).symm
        have e2 : os.map numsD = os.dropLast.map numsD ++ [numsD (os.getLast hne)] := by
          conv => lhs; rw [e]
          rw [List.map_append]
          rfl
        rw [e2]
        exact DL.atI_last _ _
      · refine ⟨os[i - 1], List.getElem_mem (by omega), ?_⟩
        rw [show (i : Int) - 1 = ((i - 1 : Nat) : Int) by omega]
        exact atI_nat (by rw [List.getElem?_map, List.getElem?_eq_getElem (by omega)]; rfl)
    refine ⟨_, rfl, rfl, ?_⟩
    rw [Int.zero_add]
    refine sd_norm (by walk_at "nrm") ?_
    refine sd_wipe [9, 10, 11] ?_
    refine sd_norm (by walk_at "nrm") ?_
    refine sd_norm (by walk_at "nrm") ?_
    refine sd_cons <| s_rsSet (hN := sc_law_turn_deal.nd) 9 <| rs_popAt <| rd_nO 4 rfl ⟨_, _, _, rfl, rfl, rv_of <| rd_ar <| rv_of <| rd_ix <| rd_nF 3 rfl <| rv_nF 8 rfl ⟨_, rfl, _, hat, _, rfl, rv_of <| rd_len T.m_len <| rv_nO 4 rfl ⟨_, _, rfl, trivial, _, rfl, _, _, rfl, by rw [List.length_map]; omega, _, rfl, ?_⟩⟩⟩
    rw [List.length_map]
    refine ⟨_, (v % (ask.length : Int)).toNat, .int (i : Int), rfl, by omega, seqIndex_of ha0 ha1, by rw [List.getElem?_map, List.getElem?_eq_getElem hm, hi]; rfl, rfl, rfl, ?_⟩
    have hee : (ask.map PyData.int).eraseIdx (v % (ask.length : Int)).toNat = (ask.eraseIdx (v % (ask.length : Int)).toNat).map PyData.int := erase_map _ _ _
    have hel : (ask.eraseIdx (v % (ask.length : Int)).toNat).length + (k + 1) = os.length := by rw [List.length_eraseIdx_of_lt hm]; omega
    have hem : ∀ y ∈ ask.eraseIdx (v % (ask.length : Int)).toNat, 0 ≤ y ∧ y < (os.length : Int) := fun y hy => h2 y ((List.eraseIdx_sublist ..).subset hy)
    rw [hee]
    generalize ask.eraseIdx (v % (ask.length : Int)).toNat = ask2 at *
    refine sd_norm (by walk_at "nrm") ?_
    refine sd_norm (by walk_at "nrm") ?_
    refine sd_cons <| s_setF (hN := sc_law_turn_deal.nd) 10 <| rd_ix <| rd_nF 2 rfl <| rv_nF 9 rfl ⟨_, rfl, _, hato, _, rfl, ?_⟩
    refine sd_norm (by walk_at "nrm") ?_
    refine sd_norm (by walk_at "nrm") ?_
    refine sd_join (fun ρ => ∃ own : List Int, OrdQ cs.length own ∧ ρ = [.fz (.int c), .fz (numsD cs), .fz (rowsD os), .fz (numsD xs), .ow (numsD ask2), .ow (numsD left), .ow (numsD dl), .un, .fz (.int (k : Nat)), .fz (.int (i : Nat)), .fz (numsD own), .un]) ?_ ?_
    · refine s_if <| rt_cmp (hu65 hr) <| rv_of <| rd_ar <| rv_nF 0 rfl <| rv_int ⟨_, _, rfl, by decide, _, rfl, rv_int ⟨_, _, rfl, trivial, fun hb => ?_, fun hb => ?_⟩⟩
      · refine sd_norm (by walk_at "nrm") ?_
        refine sd_cons <| s_setF (hN := sc_law_turn_deal.nd) 10 <| rd_ix <| rd_nF 2 rfl <| rv_of <| rd_ar <| rv_nF 9 rfl <| rv_int ⟨_, _, rfl, trivial, _, rfl, _, rfl, _, hato2, _, rfl, ?_⟩
        refine sd_norm (by walk_at "nrm") ?_
        refine sd_nil ⟨o2, hO o2 ho2, rfl⟩
      · refine sd_norm (by walk_at "nrm") ?_
        refine sd_nil ⟨o, hO o (List.mem_of_getElem? ho), rfl⟩
    rintro ρ ⟨own, hown, rfl⟩
    refine sd_norm (by walk_at "nrm") ?_
    refine sd_cons ?_
    refine s_forT (α := List Int × List Int) (.one 11) [11] ?_ PassesOwn.never rfl (pg_name (i := 11) sc_law_turn_deal.nd rfl (by first | exact .inl rfl | exact .inr rfl))
    refine ri_list <| rf_of <| rd_nF 10 rfl ⟨_, rfl, _, rfl, ?_⟩
    refine ⟨fun _ x => [(5, .ow (numsD x.1)), (6, .ow (numsD x.2))], fun _ x => DInv cs os.length x.1 x.2, ⟨(left, dl), I, keep_intro rfl⟩, ?_, fun f x oa => ?_⟩
    · rintro q d f ⟨left, dl⟩ he I
      obtain ⟨y, hy, rfl⟩ := get_map he
      replace I : DInv cs os.length left dl := I
      have hyb := hown.rg y (List.mem_of_getElem? hy)
      obtain ⟨x, rfl⟩ : ∃ x : Nat, y = x := ⟨y.toNat, by omega⟩
      have hll := I.ll
      have hdl := I.dlen
      have hxl2 : x < (left.map PyData.int).length := by rw [List.length_map]; omega
      have hg : (left.map PyData.int)[x]? = some (.int (left.getD x 0)) := by rw [List.getElem?_map, List.getD_eq_getElem?_getD, List.getElem?_eq_getElem (by omega)]; rfl
      have hil : i < (dl.map PyData.int).length := by rw [List.length_map]; omega
      have hgd : (dl.map PyData.int)[i]? = some (.int (dl.getD i 0)) := by rw [List.getElem?_map, List.getD_eq_getElem?_getD, List.getElem?_eq_getElem (by omega)]; rfl
      refine ⟨_, rfl, rfl, ?_⟩
      refine sd_norm (by walk_at "nrm") ?_
      refine sd_norm (by walk_at "nrm") ?_
      refine sd_cons <| s_if <| rt_eq (decide (dl.getD i 0 = cs.length ∧ 0 < left.getD x 0)) ?_ ?_
      · refine rt_bool <| rw_and <| rt_cmp (hu65 hr) <| rv_of <| rd_ix <| rd_nO 6 rfl <| rv_nF 9 rfl ⟨_, rfl, numsD dl, i, .int (dl.getD i 0), rfl, ixN_nat hil, hgd, fun _ => ⟨_, rfl, rv_of <| rd_len T.m_len <| rv_nF 1 rfl ⟨_, _, rfl, trivial, _, rfl, _, _, rfl, trivial, fun hb => ?_, fun hb => ?_⟩⟩, fun z => (by cases z)⟩
        · rw [List.length_map] at hb
          have hb := of_decide_eq_false hb
          exact (decide_eq_false fun h => hb h.1).symm
        · rw [List.length_map] at hb
          have hb := of_decide_eq_true hb
          refine rw_and1 <| rt_cmp (hu65 hr) <| rv_of <| rd_ix <| rd_nO 5 rfl <| rv_nF 11 rfl ⟨_, rfl, numsD left, x, .int (left.getD x 0), rfl, ixN_nat hxl2, hg, fun _ => ⟨_, rfl, rv_int ⟨_, _, rfl, trivial, ?_⟩⟩, fun z => (by cases z)⟩
          rw [decide_eq_decide]
          exact ⟨fun h => ⟨hb, h⟩, fun h => h.2⟩
      · refine ⟨fun hb => ?_, fun hb => ?_⟩
        · obtain ⟨hb1, hb2⟩ := of_decide_eq_true hb
          refine sd_norm (by walk_at "nrm") ?_
          refine sd_cons <| s_setItem (ks := []) <| rm_of <| rd_ar <| rv_of <| rd_ix <| rd_nO 5 rfl <| rv_nF 11 rfl ⟨_, rfl, numsD left, x, .int (left.getD x 0), rfl, ixN_nat hxl2, hg, fun _ => ⟨_, rfl, rv_int ⟨_, _, rfl, trivial, _, ⟨rfl, rfl⟩, rd_nO 5 rfl ⟨_, _, _, rfl, rfl, rv_nF 11 rfl ⟨_, x, rfl, ixN_nat hxl2, ?_⟩⟩⟩⟩, fun z => (by cases z)⟩
          refine sd_norm (modE_eq (d' := numsD (left.set x (left.getD x 0 - 1))) rfl (by rw [modAt_nil, numsD, List.map_set])) ?_
          refine sd_norm (by walk_at "nrm") ?_
          refine sd_norm (by walk_at "nrm") ?_
          refine sd_cons <| s_setItem (ks := []) <| rm_of <| rd_nF 11 rfl ⟨_, ⟨rfl, rfl⟩, rd_nO 6 rfl ⟨_, _, _, rfl, rfl, rv_nF 9 rfl ⟨_, i, rfl, ixN_nat hil, ?_⟩⟩⟩
          refine sd_norm (modE_eq (d' := numsD (dl.set i (x : Int))) rfl (by rw [modAt_nil, numsD, List.map_set])) ?_
          refine sd_norm (by walk_at "nrm") ?_
          refine sd_norm (by walk_at "nrm") ?_
          exact sd_nil (sd_nil ⟨(left.set x (left.getD x 0 - 1), dl.set i (x : Int)), I.step (by omega) hb2, keep_intro rfl⟩)
        · refine sd_norm (by walk_at "nrm") ?_
          exact sd_nil (sd_nil ⟨(left, dl), I, keep_intro rfl⟩)
    obtain ⟨left, dl⟩ := x
    refine sd_norm (by walk_at "nrm") ?_
    refine sd_wipe [9, 10, 11] ?_
    refine sd_norm (by walk_at "nrm") ?_
    refine sd_norm (by walk_at "nrm") ?_
    exact sd_nil ⟨(ask2, left, dl), ⟨⟨hel, hem⟩, oa⟩, keep_intro rfl⟩
  obtain ⟨ask, left, dl⟩ := x
  refine sd_norm (by walk_at "nrm") ?_
  refine sd_wipe [8, 9, 10, 11] ?_
  refine sd_norm (by walk_at "nrm") ?_
  refine sd_norm (by walk_at "nrm") ?_
  refine sd_cons <| s_ret <| rd_nO 6 rfl ⟨_, rfl, _, .inl rfl, c, cs, os, dl, rfl, rfl, DInv.deal oa.2⟩
def A_law_any_deal (ds : List PyData) : Prop := ∃ (c : Int) (cs : List Int) (a : Nat), ds = [.int c, numsD cs, .int a] ∧ cs.length ≤ 6 ∧ (∀ x ∈ cs, 0 ≤ x ∧ x ≤ 9) ∧ 1 ≤ a ∧ a ≤ 6
def R_law_any_deal (ds : List PyData) (d : PyData) : Prop := ∃ (c : Int) (cs : List Int) (a : Nat) (dl : List Int), ds = [.int c, numsD cs, .int a] ∧ d = numsD dl ∧ DealQ cs a dl
theorem ok_law_any_deal (T : Txt K mg) : FnN P0 w K mg base "_law_any_deal" 2 A_law_any_deal R_law_any_deal := by
  refine fn_N T.f_law_any_deal sc_law_any_deal (fun ds ⟨c, cs, a, e, _⟩ => by rw [e]; rfl) (fun f cdv A outer s H E hr ds ⟨c, cs, a, hds, hn, hcb, ha1, ha6⟩ => ?_)
  subst hds
  refine sd_norm (by walk_at "nrm") ?_
  refine sd_cons <| s_setF (hN := sc_law_any_deal.nd) 3 <| rd_callN (callN (ok_law_stream T) hr) <| ra_cons <| rv_of <| rd_ar <| rv_nF 0 rfl <| rv_int ⟨_, _, rfl, cdiv_s (by decide) (by decide), _, rfl, ra_cons <| rv_of <| rd_ar <| rv_nF 2 rfl <| rv_int ⟨_, _, rfl, trivial, _, rfl, ra_nil ⟨⟨_, a + 1, rfl, by omega⟩, ?_⟩⟩⟩
  rintro d ⟨_, m, xs, hds, rfl, hxl, hx0⟩
  have hxl : xs.length = a + 1 := by
    simp only [List.cons.injEq, PyData.int.injEq, and_true] at hds
    omega
  clear hds
  refine ⟨_, rfl, ?_⟩
  refine sd_norm (by walk_at "nrm") ?_
  refine sd_norm (by walk_at "nrm") ?_
  refine sd_cons <| s_set (hN := sc_law_any_deal.nd) 4 <| rd_listof T.m_list <| ra_cons <| rv_nF 1 rfl <| ra_nil ⟨_, .inl rfl, lfs_ints _, ?_⟩
  refine sd_norm (by walk_at "nrm") ?_
  refine sd_norm (by walk_at "nrm") ?_
  refine sd_cons ?_
  refine s_lc 5 (own := [("k", 6)]) (.one 6) (List.range a) (fun (j : Nat) => PyData.int (0 + (j : Int))) (fun (j : Nat) => [.int (0 + (j : Int))]) (fun _ => .int cs.length) rfl sc_law_any_deal.nd (blkOk_by rfl) (fun _ _ _ _ _ => pg_name (i := 6) sc_law_any_deal.nd rfl (by first | exact .inl rfl | exact .inr rfl)) ?_ ?_ ?_ ?_ ?_
  · exact ri_range1 T.m_range <| ra_cons <| rv_nF 2 rfl <| ra_nil ⟨(a : Nat), rfl, by omega, by omega, rfl⟩
  · rw [List.length_range]; show _ ≤ 2 ^ 24; omega
  · exact fun a ha => rfl
  · intro j hj s H C cl fp
    refine rd_len T.m_len <| rv_nF 1 rfl ⟨_, _, rfl, trivial, ?_⟩
    rw [List.length_map]
    exact ⟨rfl, rfl⟩
  rw [show PyData.list ((List.range a).map fun _ => PyData.int (cs.length : Int)) = numsD (List.replicate a (cs.length : Int)) by rw [numsD, List.map_replicate, List.map_const', List.length_range]]
  refine sd_norm (by walk_at "nrm") ?_
  refine sd_wipe [6] ?_
  refine sd_norm (by walk_at "nrm") ?_
  refine sd_norm (by walk_at "nrm") ?_
  refine sd_cons ?_
  refine s_forT (α := List Int × List Int) (.one 6) [6, 7] ?_ PassesOwn.never rfl (pg_name (i := 6) sc_law_any_deal.nd rfl (by first | exact .inl rfl | exact .inr rfl))
  refine ri_range1 T.m_range <| ra_cons <| rv_nF 2 rfl <| ra_nil ⟨(a : Nat), rfl, by omega, by omega, ?_⟩
  refine ⟨fun k x => [(4, .ow (numsD x.1)), (5, .ow (numsD x.2))], fun k x => DInv cs a x.1 x.2, ⟨(cs, List.replicate a (cs.length : Int)), DInv.start hcb, keep_intro rfl⟩, ?_, fun f x oa => ?_⟩
  · rintro k d f ⟨left, dl⟩ he I
    obtain ⟨rfl, hk⟩ := rng_get he
    replace I : DInv cs a left dl := I
    have hka : k < a := by omega
    have hat := atI_nums (xs := xs) (k := k) (by omega)
    have hat2 := atI_nums (xs := xs) (k := a) (by omega)
    have hv0 := hx0 _ (mem_getD (xs := xs) (k := k) (by omega))
    have hv1 := hx0 _ (mem_getD (xs := xs) (k := a) (by omega))
    generalize xs.getD k 0 = v at *
    generalize xs.getD a 0 = u at *
    have hw0 := Int.emod_nonneg v (show (cs.length : Int) + 1 ≠ 0 by omega)
    have hw1 := Int.emod_lt_of_pos v (show (0 : Int) < (cs.length : Int) + 1 by omega)
    obtain ⟨x, hx⟩ : ∃ x : Nat, v % ((cs.length : Int) + 1) = x := ⟨(v % ((cs.length : Int) + 1)).toNat, by omega⟩
    have hp0 := Int.emod_nonneg ((k : Int) + u) (show (a : Int) ≠ 0 by omega)
    have hp1 := Int.emod_lt_of_pos ((k : Int) + u) (show (0 : Int) < (a : Int) by omega)
    obtain ⟨q, hq⟩ : ∃ q : Nat, ((k : Int) + u) % (a : Int) = q := ⟨(((k : Int) + u) % (a : Int)).toNat, by omega⟩
    refine ⟨_, rfl, rfl, ?_⟩
    rw [Int.zero_add]
    refine sd_norm (by walk_at "nrm") ?_
    refine sd_wipe [7] ?_
    refine sd_norm (by walk_at "nrm") ?_
    refine sd_norm (by walk_at "nrm") ?_
    refine sd_cons <| s_set (hN := sc_law_any_deal.nd) 7 <| rd_ar <| rv_of <| rd_ix <| rd_nF 3 rfl <| rv_nF 6 rfl ⟨_, rfl, _, hat, _, rfl, rv_of <| rd_ar <| rv_of <| rd_len T.m_len <| rv_nF 1 rfl ⟨_, _, rfl, trivial, _, rfl, rv_int ⟨_, _, rfl, trivial, _, rfl, _, _, rfl, by rw [List.length_map]; omega, ?_⟩⟩⟩
    rw [List.length_map, hx]
    refine sd_norm (by walk_at "nrm") ?_
    have hll := I.ll
    refine sd_norm (by walk_at "nrm") ?_
    refine sd_cons <| s_if <| rt_eq (decide (x < cs.length ∧ 0 < left.getD x 0)) ?_ ?_
    · refine rt_bool <| rw_and <| rt_cmp (hu65 hr) <| rv_nF 7 rfl <| rv_of <| rd_len T.m_len <| rv_nF 1 rfl ⟨_, _, rfl, trivial, _, rfl, _, _, rfl, trivial, fun hb => ?_, fun hb => ?_⟩
      · rw [List.length_map] at hb
        have hb := of_decide_eq_false hb
        exact (decide_eq_false fun h => hb (by omega)).symm
      · rw [List.length_map] at hb
        have hb : x < cs.length := by have := of_decide_eq_true hb; omega
        have hg : (left.map PyData.int)[x]? = some (.int (left.getD x 0)) := by rw [List.getElem?_map, List.getD_eq_getElem?_getD, List.getElem?_eq_getElem (by omega)]; rfl
        refine rw_and1 <| rt_cmp (hu65 hr) <| rv_of <| rd_ix <| rd_nO 4 rfl <| rv_nF 7 rfl ⟨_, rfl, numsD left, x, .int (left.getD x 0), rfl, ixN_nat (by rw [show (kids (numsD left)).length = left.length from List.length_map _]; omega), hg, fun _ => ⟨_, rfl, rv_int ⟨_, _, rfl, trivial, ?_⟩⟩, fun z => (by cases z)⟩
        rw [decide_eq_decide]
        exact ⟨fun h => ⟨hb, h⟩, fun h => h.2⟩
    · refine ⟨fun hb => ?_, fun hb => ?_⟩
      · obtain ⟨hb1, hb2⟩ := of_decide_eq_true hb
        have hg : (left.map PyData.int)[x]? = some (.int (left.getD x 0)) := by rw [List.getElem?_map, List.getD_eq_getElem?_getD, List.getElem?_eq_getElem (by omega)]; rfl
        have hxl : x < (left.map PyData.int).length := by rw [List.length_map]; omega
        refine sd_norm (by walk_at "nrm") ?_
        refine sd_cons <| s_setItem (ks := []) <| rm_of <| rd_ar <| rv_of <| rd_ix <| rd_nO 4 rfl <| rv_nF 7 rfl ⟨_, rfl, numsD left, x, .int (left.getD x 0), rfl, ixN_nat hxl, hg, fun _ => ⟨_, rfl, rv_int ⟨_, _, rfl, trivial, _, ⟨rfl, rfl⟩, rd_nO 4 rfl ⟨_, _, _, rfl, rfl, rv_nF 7 rfl ⟨_, x, rfl, ixN_nat hxl, ?_⟩⟩⟩⟩, fun z => (by cases z)⟩
        refine sd_norm (modE_eq (d' := numsD (left.set x (left.getD x 0 - 1))) rfl (by rw [modAt_nil, numsD, List.map_set])) ?_
        refine sd_norm (by walk_at "nrm") ?_
        refine sd_norm (by walk_at "nrm") ?_
        refine sd_cons <| s_setItem (ks := []) <| rm_of <| rd_nF 7 rfl ⟨_, ⟨rfl, rfl⟩, rd_nO 5 rfl ⟨_, _, _, rfl, rfl, rv_of <| rd_ar <| rv_of <| rd_ar <| rv_nF 6 rfl <| rv_of <| rd_ix <| rd_nF 3 rfl <| rv_nF 2 rfl ⟨_, rfl, _, hat2, _, rfl, _, _, rfl, trivial, _, rfl, rv_nF 2 rfl ⟨_, _, rfl, by omega, _, rfl, _, q, rfl, by rw [hq]; exact ixN_nat (by rw [List.length_map, I.dlen]; omega), ?_⟩⟩⟩⟩
        refine sd_norm (modE_eq (d' := numsD (dl.set q (x : Int))) rfl (by rw [modAt_nil, numsD, List.map_set])) ?_
        refine sd_norm (by walk_at "nrm") ?_
        refine sd_norm (by walk_at "nrm") ?_
        exact sd_nil (sd_nil ⟨(left.set x (left.getD x 0 - 1), dl.set q (x : Int)), I.step hb1 hb2, keep_intro rfl⟩)
      · refine sd_norm (by walk_at "nrm") ?_
        exact sd_nil (sd_nil ⟨(left, dl), I, keep_intro rfl⟩)
  obtain ⟨left, dl⟩ := x
  refine sd_norm (by walk_at "nrm") ?_
  refine sd_wipe [6, 7] ?_
  refine sd_norm (by walk_at "nrm") ?_
  refine sd_norm (by walk_at "nrm") ?_
  refine sd_cons <| s_ret <| rd_nO 5 rfl ⟨_, rfl, _, .inl rfl, c, cs, a, dl, rfl, rfl, DInv.deal oa⟩
def P_law_due (ds : List PyData) (d : PyData) : Prop := ∃ (cs : List Int) (os : List (List Int)) (sh : List (List Rat)) (W : Nat), ds = [.int cs.length, rowsD os, sharesD sh] ∧ WishOk cs os sh W ∧ d = tupsN (dueQ cs.length os sh)
theorem ok_law_due (T : Txt K mg) : FnC P0 w K mg base "_law_due" 2 P_law_due := by
  refine fn_C T.f_law_due sc_law_due (fun ds d ⟨cs, os, sh, W, e, _⟩ => by rw [e]; rfl) (fun f cdv A outer s H E hr ds d ⟨cs, os, sh, W, hds, ⟨Q, hl, S, hrl⟩, hd⟩ => ?_)
  subst hds hd
  have hn := Q.n
  have ha := Q.a
  refine sd_norm (by walk_at "nrm") ?_
  refine sd_cons <| s_set (hN := sc_law_due.nd) 3 <| rd_list <| ro_nil ⟨Nat.le_of_ble_eq_true rfl, ?_⟩
  refine sd_norm (by walk_at "nrm") ?_
  refine sd_norm (by walk_at "nrm") ?_
  refine sd_cons ?_
  refine s_forT (α := Unit) (.one 4) [4, 5, 6, 7, 8] ?_ PassesOwn.never rfl (pg_name (i := 4) sc_law_due.nd rfl (by first | exact .inl rfl | exact .inr rfl))
  refine ri_range1 T.m_range <| ra_cons <| rv_of <| rd_ar <| rv_nF 0 rfl <| rv_int ⟨_, _, rfl, trivial, _, rfl, ra_nil ⟨((cs.length + 1 : Nat) : Int), rfl, by omega, by omega, ?_⟩⟩
  refine ⟨fun b _ => [(3, .ow (tupsN ((allPk cs.length b).filter (dueB cs.length os sh))))], fun _ _ => True, ⟨(), trivial, keep_intro rfl⟩, ?_, fun f _ oa => ?_⟩
  · rintro b d f _ he _
    obtain ⟨rfl, hb⟩ := rng_get he
    have hb : b < cs.length + 1 := by omega
    refine ⟨_, rfl, rfl, ?_⟩
    rw [Int.zero_add]
    refine sd_norm (by walk_at "nrm") ?_
    refine sd_wipe [5, 6, 7, 8] ?_
    refine sd_norm (by walk_at "nrm") ?_
    have hA : (allPk cs.length (b + 1)).filter (dueB cs.length os sh) = (allPk cs.length b).filter (dueB cs.length os sh) ++ (rowP cs.length b (cs.length + 1)).filter (dueB cs.length os sh) := by rw [allPk, List.filter_append]
    have hAl : ((allPk cs.length b).filter (dueB cs.length os sh)).length ≤ b * 7 := by
      refine Nat.le_trans (List.length_filter_le _ _) ?_
      have key : ∀ k, (allPk cs.length k).length = k * (cs.length + 1) := fun k => by
        induction k with
        | zero => rw [Nat.zero_mul]; rfl
        | succ k ih => rw [allPk, List.length_append, ih, rowP, List.length_map, List.length_range, Nat.succ_mul]
      rw [key]
      exact Nat.mul_le_mul_left _ (by omega)
    generalize (allPk cs.length b).filter (dueB cs.length os sh) = A0 at *
    refine sd_norm (by walk_at "nrm") ?_
    refine sd_cons ?_
    refine s_forT (α := Unit) (.one 5) [5, 6, 7, 8] ?_ PassesOwn.never rfl (pg_name (i := 5) sc_law_due.nd rfl (by first | exact .inl rfl | exact .inr rfl))
    refine ri_range1 T.m_range <| ra_cons <| rv_of <| rd_ar <| rv_nF 0 rfl <| rv_int ⟨_, _, rfl, trivial, _, rfl, ra_nil ⟨((cs.length + 1 : Nat) : Int), rfl, by omega, by omega, ?_⟩⟩
    refine ⟨fun x _ => [(3, .ow (tupsN (A0 ++ (rowP cs.length b x).filter (dueB cs.length os sh))))], fun _ _ => True, ⟨(), trivial, keep_intro (by simp only [rowP, List.range_zero, List.map_nil, List.filter_nil, List.append_nil]; rfl)⟩, ?_, fun f _ ob => ?_⟩
    · rintro x d f _ he _
      obtain ⟨rfl, hx⟩ := rng_get he
      have hx : x < cs.length + 1 := by omega
      refine ⟨_, rfl, rfl, ?_⟩
      rw [Int.zero_add]
      refine sd_norm (by walk_at "nrm") ?_
      refine sd_wipe [6, 7, 8] ?_
      refine sd_norm (by walk_at "nrm") ?_
      have hR : (rowP cs.length b (x + 1)).filter (dueB cs.length os sh) = (rowP cs.length b x).filter (dueB cs.length os sh) ++ if dueB cs.length os sh [(b : Int), (x : Int)] = true then [[(b : Int), (x : Int)]] else [] := by
        unfold rowP
        rw [List.range_succ, List.map_append, List.filter_append]
        congr 1
        show List.filter _ [[(b : Int), (x : Int)]] = _
        rw [List.filter_cons, List.filter_nil]
      have hRl : ((rowP cs.length b x).filter (dueB cs.length os sh)).length ≤ x := by
        refine Nat.le_trans (List.length_filter_le _ _) ?_
        rw [rowP, List.length_map, List.length_range]
        exact Nat.le_refl _
      generalize hA1 : A0 ++ (rowP cs.length b x).filter (dueB cs.length os sh) = A1 at *
      have hA1l : A1.length ≤ 100 := by rw [← hA1, List.length_append]; omega
      have hrow : ∀ i < os.length, ∃ r, sh[i]? = some r ∧ sh.getD i [] = r ∧ atI (r.map frQ) (x : Int) = some (frQ (leftAt r (x : Int))) := fun i hi => by
        obtain ⟨r, hr2⟩ : ∃ r, sh[i]? = some r := ⟨_, List.getElem?_eq_getElem (by omega)⟩
        have hrn := hrl r (List.mem_of_getElem? hr2)
        exact ⟨r, hr2, by rw [List.getD_eq_getElem?_getD, hr2]; rfl, atI_nat (j := x) (by unfold leftAt; rw [List.getElem?_map, Int.toNat_natCast, List.getD_eq_getElem?_getD, List.getElem?_eq_getElem (by omega)]; rfl)⟩
      have hord : ∀ i < os.length, ∃ o, os[i]? = some o ∧ os.getD i [] = o := fun i hi => ⟨_, List.getElem?_eq_getElem hi, by rw [List.getD_eq_getElem?_getD, List.getElem?_eq_getElem hi]; rfl⟩
      refine sd_norm (by walk_at "nrm") ?_
      refine sd_cons ?_
      refine s_lcIf 6 (own := [("k", 7)]) (.one 7) (List.range os.length) (fun (i : Nat) => PyData.int (0 + (i : Int))) (fun (i : Nat) => [.int (0 + (i : Int))]) (fun (i : Nat) => decide (0 < leftAt (sh.getD i []) (x : Int))) (fun (i : Nat) => .int (0 + (i : Int))) rfl sc_law_due.nd (blkOk_by rfl) (fun _ _ _ _ _ => (pg_name (i := 7) sc_law_due.nd rfl (by first | exact .inl rfl | exact .inr rfl))) ?_ ?_ ?_ ?_ ?_ ?_
      · exact ri_range1 T.m_range <| ra_cons <| rv_of <| rd_len T.m_len <| rv_nF 1 rfl ⟨_, _, rfl, trivial, _, rfl, ra_nil ⟨(os.length : Nat), by rw [List.length_map], by omega, by omega, rfl⟩⟩
      · rw [List.length_range]; show _ ≤ 2 ^ 24; omega
      · exact fun a ha => rfl
      · intro i hi s H C cl fp
        obtain ⟨r, e1, e2, e3⟩ := hrow i (List.mem_range.mp hi)
        have hat : atI (sh.map frsQ) (0 + (i : Int)) = some (frsQ r) := by rw [Int.zero_add]; exact atI_nat (by rw [List.getElem?_map, e1]; rfl)
        refine rt_cmp (hu65 ‹_›) <| rv_of <| rd_ix <| rd_ix <| rd_ix <| rd_nF 2 rfl <| rv_nF 7 rfl ⟨_, rfl, _, hat, rv_nF 5 rfl ⟨_, rfl, _, e3, rv_int ⟨_, rfl, _, rfl, _, rfl, rv_int ⟨_, _, rfl, trivial, ?_⟩⟩⟩⟩
        rw [e2]
        rw [← q_lt]
        refine decide_eq_decide.mpr ?_
        show (0 : Int) < _ ↔ (0 : Int) * _ < _ * (1 : Int)
        rw [Int.zero_mul, Int.mul_one]
      · intro i hi hk s H C cl fp
        exact rd_nF 7 rfl ⟨rfl, rfl⟩
      refine .inr ?_
      refine sd_norm (by walk_at "nrm") ?_
      refine sd_wipe [7] ?_
      refine sd_norm (by walk_at "nrm") ?_
      refine sd_norm (by walk_at "nrm") ?_
      refine sd_cons ?_
      refine s_lcIf 8 (own := [("k", 7)]) (.one 7) ((List.range os.length).filter fun (i : Nat) => decide (0 < leftAt (sh.getD i []) (x : Int))) (fun (i : Nat) => PyData.int (0 + (i : Int))) (fun (i : Nat) => [.int (0 + (i : Int))]) (fun (i : Nat) => decide (DL.placeQ (os.getD i []) cs.length (b : Int) < DL.placeQ (os.getD i []) cs.length (x : Int))) (fun (i : Nat) => .int (0 + (i : Int))) rfl sc_law_due.nd (blkOk_by rfl) (fun _ _ _ _ _ => (pg_name (i := 7) sc_law_due.nd rfl (by first | exact .inl rfl | exact .inr rfl))) ?_ ?_ ?_ ?_ ?_ ?_
      · exact ri_list <| rf_of <| rd_nF 6 rfl ⟨_, rfl, _, rfl, rfl⟩
      · have := List.length_filter_le (fun (i : Nat) => decide (0 < leftAt (sh.getD i []) (x : Int))) (List.range os.length)
        rw [List.length_range] at this
        show _ ≤ 2 ^ 24
        omega
      · exact fun a ha => rfl
      · intro i hi s H C cl fp
        obtain ⟨o, e1, e2⟩ := hord i (List.mem_range.mp (List.mem_filter.mp hi).1)
        have hat : atI (os.map numsD) (0 + (i : Int)) = some (numsD o) := by rw [Int.zero_add]; exact atI_nat (by rw [List.getElem?_map, e1]; rfl)
        rw [e2]
        exact rt_cmp (hu65 ‹_›) <| rv_of <| rd_call (callC (ok_law_place T) ‹_›) <| ra_cons <| rv_of <| rd_ix <| rd_nF 1 rfl <| rv_nF 7 rfl ⟨_, rfl, _, hat, _, rfl, ra_cons <| rv_nF 0 rfl <| ra_cons <| rv_nF 4 rfl <| ra_nil ⟨_, ⟨o, cs.length, _, rfl, rfl⟩, _, rfl, rv_of <| rd_call (callC (ok_law_place T) ‹_›) <| ra_cons <| rv_of <| rd_ix <| rd_nF 1 rfl <| rv_nF 7 rfl ⟨_, rfl, _, hat, _, rfl, ra_cons <| rv_nF 0 rfl <| ra_cons <| rv_nF 5 rfl <| ra_nil ⟨_, ⟨o, cs.length, _, rfl, rfl⟩, _, rfl, _, _, rfl, trivial, rfl⟩⟩⟩⟩
      · intro i hi hk s H C cl fp
        exact rd_nF 7 rfl ⟨rfl, rfl⟩
      refine .inr ?_
      refine sd_norm (by walk_at "nrm") ?_
      refine sd_wipe [7] ?_
      refine sd_norm (by walk_at "nrm") ?_
      have hdue : dueB cs.length os sh [(b : Int), (x : Int)] = true ↔ ((List.range os.length).filter fun (i : Nat) => decide (0 < leftAt (sh.getD i []) (x : Int))).filter (fun (i : Nat) => decide (DL.placeQ (os.getD i []) cs.length (b : Int) < DL.placeQ (os.getD i []) cs.length (x : Int))) ≠ [] := by
        rw [List.filter_filter, Ne, List.filter_eq_nil_iff]
        unfold dueB
        rw [List.any_eq_true]
        constructor
        · rintro ⟨i, hi, hw⟩ h
          refine h i hi ?_
          rw [Bool.and_comm]
          exact hw
        · intro h
          refine Classical.byContradiction fun z => h fun i hi hw => z ⟨i, hi, ?_⟩
          rw [Bool.and_comm] at hw
          exact hw
      generalize ((List.range os.length).filter fun (i : Nat) => decide (0 < leftAt (sh.getD i []) (x : Int))).filter (fun (i : Nat) => decide (DL.placeQ (os.getD i []) cs.length (b : Int) < DL.placeQ (os.getD i []) cs.length (x : Int))) = ah at *
      refine sd_norm (by walk_at "nrm") ?_
      refine sd_cons <| s_if <| rt_neN (hu65 hr) <| rv_nF 8 rfl <| rv_of <| rd_list <| ro_nil ⟨Nat.le_of_ble_eq_true rfl, _, rfl, nb_map fun _ _ => rfl, rfl, Nat.le_trans (Nat.min_le_right _ _) (by decide), fun r hr' => ⟨fun hb1 => ?_, fun hb1 => ?_⟩⟩
      · have hne : ah ≠ [] := fun z => hr'.mp hb1 (by rw [z]; rfl)
        refine sd_norm (by walk_at "nrm") ?_
        refine sd_cons <| s_append (ks := []) <| rd_nO 3 rfl ⟨_, _, _, rfl, rfl, by rw [List.length_map]; show _ < 2 ^ 24; omega, by decide, rm_of <| rd_tuple <| ro_cons <| rd_nF 4 rfl ⟨_, ⟨rfl, rfl⟩, ro_cons <| rd_nF 5 rfl ⟨_, ⟨rfl, rfl⟩, ro_nil ⟨Nat.le_of_ble_eq_true rfl, _, ⟨rfl, rfl⟩, ?_⟩⟩⟩⟩
        refine sd_norm (by walk_at "nrm") ?_
        refine sd_norm (by walk_at "nrm") ?_
        refine sd_nil <| sd_wipe [6, 7, 8] <| sd_nil ⟨(), trivial, keep_intro ?_⟩
        simp only [hR, if_pos (hdue.mpr hne), ← List.append_assoc, hA1, tupsN, List.map_append, List.map_cons, List.map_nil]
        rfl
      · have he : ah = [] := by
          refine Classical.byContradiction fun z => ?_
          have : r = true := hr'.mpr fun e => by
            injection e with e
            exact z (List.map_eq_nil_iff.mp e)
          rw [hb1] at this
          cases this
        have hd0 : ¬ dueB cs.length os sh [(b : Int), (x : Int)] = true := fun z => hdue.mp z he
        refine sd_norm (by walk_at "nrm") ?_
        refine sd_nil <| sd_wipe [6, 7, 8] <| sd_nil ⟨(), trivial, keep_intro ?_⟩
        simp only [hR, if_neg hd0, List.append_nil, hA1]
        rfl
    have hlr : (rngD 0 (cs.length + 1)).length = cs.length + 1 := by simp [rngD]
    refine sd_norm (by walk_at "nrm") ?_
    refine sd_wipe [5, 6, 7, 8] ?_
    refine sd_norm (by walk_at "nrm") ?_
    refine sd_nil ⟨(), trivial, keep_intro ?_⟩
    simp only [hA, rngD, List.length_map, List.length_range]
    rfl
  refine sd_norm (by walk_at "nrm") ?_
  refine sd_wipe [4, 5, 6, 7, 8] ?_
  refine sd_norm (by walk_at "nrm") ?_
  simp only [rngD, List.length_map, List.length_range]
  refine sd_norm (by walk_at "nrm") ?_
  exact sd_cons <| s_ret <| rd_nO 3 rfl ⟨_, rfl, .inl rfl⟩
def A_law_orders (ds : List PyData) : Prop := ∃ (cells : List Int) (n : Nat), ds = [numsD cells, .int n] ∧ n ≤ 900 ∧ cells.length ≤ 1000
def R_law_orders (ds : List PyData) (d : PyData) : Prop := ∃ (cells : List Int) (n : Nat) (os : List (List Int)), ds = [numsD cells, .int n] ∧ d = rowsD os ∧ os.length = cells.length ∧ ∀ o ∈ os, OrdQ n o
theorem ok_law_orders (T : Txt K mg) : FnN P0 w K mg base "_law_orders" 3 A_law_orders R_law_orders := by
  refine fn_N T.f_law_orders sc_law_orders (fun ds ⟨c, n, e, _⟩ => by rw [e]; rfl) (fun f cdv A outer s H E hr ds ⟨cells, n, hds, hn, hcl⟩ => ?_)
  subst hds
  refine sd_norm (by walk_at "nrm") ?_
  refine sd_cons <| s_set (hN := sc_law_orders.nd) 2 <| rd_list <| ro_nil ⟨Nat.le_of_ble_eq_true rfl, ?_⟩
  refine sd_norm (by walk_at "nrm") ?_
  refine sd_norm (by walk_at "nrm") ?_
  refine sd_cons ?_
  refine s_forT (α := List (List Int)) (.one 3) [3] ?_ PassesOwn.never rfl (pg_name (i := 3) sc_law_orders.nd rfl (by first | exact .inl rfl | exact .inr rfl))
  refine ri_list <| rf_of <| rd_nF 0 rfl ⟨_, rfl, _, rfl, ?_⟩
  refine ⟨fun k os => [(2, .ow (rowsD os))], fun k os => os.length = k ∧ ∀ o ∈ os, OrdQ n o, ⟨[], ⟨rfl, fun o ho => (nomatch ho)⟩, keep_intro rfl⟩, ?_, fun f os oa => ?_⟩
  · rintro k d f os he ⟨hl, hO⟩
    obtain ⟨c, hc, rfl⟩ := get_map he
    have hk := (List.getElem?_eq_some_iff.mp hc).1
    refine ⟨_, rfl, rfl, ?_⟩
    refine sd_norm (by walk_at "nrm") ?_
    refine sd_norm (by walk_at "nrm") ?_
    refine sd_cons <| s_if <| rt_eq (decide (c % 4 = 0 ∧ os ≠ [])) ?_ ?_
    · refine rt_bool <| rw_and <| rt_cmp (hu65 hr) <| rv_of <| rd_ar <| rv_nF 3 rfl <| rv_int ⟨_, _, rfl, by decide, _, rfl, rv_int ⟨_, _, rfl, trivial, fun hb => ?_, fun hb => ?_⟩⟩
      · exact (decide_eq_false fun h => of_decide_eq_false hb h.1).symm
      · refine rw_and1 <| rt_neN (hu65 hr) <| rv_nO 2 rfl <| rv_of <| rd_list <| ro_nil ⟨Nat.le_of_ble_eq_true rfl, _, rfl, nb_map fun o _ => nb_ints o, rfl, Nat.le_trans (Nat.min_le_right _ _) (by decide), fun r hr => ?_⟩
        rw [Bool.eq_iff_iff, hr, decide_eq_true_eq]
        constructor
        · exact fun h => ⟨of_decide_eq_true hb, fun z => h (by rw [z]; rfl)⟩
        · intro h z
          apply h.2
          have : os.map numsD = [] := by simpa using z
          exact List.map_eq_nil_iff.mp this
    · refine ⟨fun hb => ?_, fun hb => ?_⟩
      · have hne := (of_decide_eq_true hb).2
        have hl0 : 0 < os.length := List.length_pos_iff.mpr hne
        obtain ⟨o, ho⟩ : ∃ o, os[os.length - 1]? = some o := ⟨_, List.getElem?_eq_getElem (by omega)⟩
        have hg : (os.map numsD)[os.length - 1]? = some (numsD o) := by rw [List.getElem?_map, ho]; rfl
        refine sd_norm (by walk_at "nrm") ?_
        refine sd_cons <| s_append (ks := []) <| rd_nO 2 rfl ⟨_, _, _, rfl, rfl, by rw [List.length_map]; show _ < 2 ^ 24; omega, by decide, rm_of <| rd_listof T.m_list <| ra_cons <| rv_of <| rd_ix <| rd_nO 2 rfl <| rv_of <| rd_neg <| rv_int ⟨_, rfl, _, rfl, _, rfl, rowsD os, os.length - 1, numsD o, rfl, ?_, hg, fun z => (by cases z), fun _ => ⟨numsD o, subAt_one hg, ra_nil ⟨_, .inl rfl, lfs_ints _, _, rfl, ?_⟩⟩⟩⟩
        · have := ixN_last (n := os.length) hl0
          rw [show (kids (rowsD os)).length = os.length from List.length_map _]
          exact this
        refine sd_norm (by walk_at "nrm") ?_
        refine sd_nil (sd_nil ⟨os ++ [o], ⟨by rw [List.length_append, hl]; rfl, fun x hx => ?_⟩, keep_intro ?_⟩)
        · rcases List.mem_append.mp hx with hx | hx
          · exact hO x hx
          · rw [List.mem_singleton.mp hx]
            exact hO o (List.mem_of_getElem? ho)
        · simp only [rowsD, List.map_append, List.map_cons, List.map_nil]
          rfl
      · refine sd_norm (by walk_at "nrm") ?_
        refine sd_cons <| s_append (ks := []) <| rd_nO 2 rfl ⟨_, _, _, rfl, rfl, by rw [List.length_map]; show _ < 2 ^ 24; omega, by decide, rm_of <| rd_callN (callN (ok_law_order T) hr) <| ra_cons <| rv_nF 3 rfl <| ra_cons <| rv_nF 1 rfl <| ra_nil ⟨⟨c, n, rfl, hn⟩, ?_⟩⟩
        rintro d ⟨c', n', o, he2, rfl, hoq⟩
        have hnn : n' = n := by
          simp only [List.cons.injEq, PyData.int.injEq, and_true] at he2
          omega
        subst hnn
        refine ⟨_, rfl, ?_⟩
        refine sd_norm (by walk_at "nrm") ?_
        refine sd_nil (sd_nil ⟨os ++ [o], ⟨by rw [List.length_append, hl]; rfl, fun x hx => ?_⟩, keep_intro ?_⟩)
        · rcases List.mem_append.mp hx with hx | hx
          · exact hO x hx
          · rw [List.mem_singleton.mp hx]
            exact hoq
        · simp only [rowsD, List.map_append, List.map_cons, List.map_nil]
          rfl
  refine sd_norm (by walk_at "nrm") ?_
  refine sd_wipe [3] ?_
  refine sd_norm (by walk_at "nrm") ?_
  refine sd_norm (by walk_at "nrm") ?_
  refine sd_cons <| s_ret <| rd_nO 2 rfl ⟨_, rfl, _, .inl rfl, cells, n, os, rfl, rfl, by rw [oa.1, List.length_map], oa.2⟩
def A_law_drawn (ds : List PyData) : Prop := ∃ (cells cs : List Int) (os : List (List Int)), ds = [numsD cells, numsD cs, rowsD os] ∧ cs.length ≤ 6 ∧ (∀ x ∈ cs, 0 ≤ x ∧ x ≤ 9) ∧ 1 ≤ os.length ∧ os.length ≤ 6 ∧ (∀ o ∈ os, OrdQ cs.length o) ∧ 1 ≤ cells.length ∧ cells.length ≤ 6
def R_law_drawn (ds : List PyData) (d : PyData) : Prop := ∃ (cells cs : List Int) (os : List (List Int)) (ws : List Int) (dls : List (List Int)), ds = [numsD cells, numsD cs, rowsD os] ∧ d = sharesD (drawnQ ws dls os.length cs.length) ∧ Drawn cs os.length ws dls
theorem ok_law_drawn (T : Txt K mg) : FnN P0 w K mg base "_law_drawn" 3 A_law_drawn R_law_drawn := by
  refine fn_N T.f_law_drawn sc_law_drawn (fun ds ⟨cells, cs, os, e, _⟩ => by rw [e]; rfl) (fun f cdv A outer s H E hr ds ⟨cells, cs, os, hds, hn, hcb, ho1, ho6, hO, hc1, hc6⟩ => ?_)
  subst hds
  refine sd_norm (by walk_at "nrm") ?_
  refine sd_cons <| s_set (hN := sc_law_drawn.nd) 3 <| rd_list <| ro_nil ⟨Nat.le_of_ble_eq_true rfl, ?_⟩
  refine sd_norm (by walk_at "nrm") ?_
  refine sd_cons <| s_set (hN := sc_law_drawn.nd) 4 <| rd_list <| ro_nil ⟨Nat.le_of_ble_eq_true rfl, ?_⟩
  refine sd_norm (by walk_at "nrm") ?_
  refine sd_norm (by walk_at "nrm") ?_
  refine sd_cons ?_
  refine s_forT (α := List Int × List (List Int)) (.one 5) [5] ?_ PassesOwn.never rfl (pg_name (i := 5) sc_law_drawn.nd rfl (by first | exact .inl rfl | exact .inr rfl))
  refine ri_list <| rf_of <| rd_nF 0 rfl ⟨_, rfl, _, rfl, ?_⟩
  refine ⟨fun k x => [(3, .ow (numsD x.1)), (4, .ow (rowsD x.2))], fun k x => (x.1.length = k ∧ x.2.length = k) ∧ (∀ w ∈ x.1, 1 ≤ w ∧ w ≤ 1000000000) ∧ ∀ d ∈ x.2, DealQ cs os.length d, ⟨([], []), ⟨⟨rfl, rfl⟩, fun w hw => (nomatch hw), fun d hd => (nomatch hd)⟩, keep_intro rfl⟩, ?_, fun f x oa => ?_⟩
  · rintro k d f ⟨ws, dls⟩ he ⟨⟨h1, h2⟩, h3, h4⟩
    obtain ⟨c, hc, rfl⟩ := get_map he
    have hk := (List.getElem?_eq_some_iff.mp hc).1
    replace h1 : ws.length = k := h1
    replace h2 : dls.length = k := h2
    replace h3 : ∀ w ∈ ws, 1 ≤ w ∧ w ≤ 1000000000 := h3
    replace h4 : ∀ d ∈ dls, DealQ cs os.length d := h4
    have g1 := Int.emod_nonneg (c / 4) (show (3 : Int) ≠ 0 by decide)
    have g2 := Int.emod_lt_of_pos (c / 4) (show (0 : Int) < 3 by decide)
    have g3 := Int.emod_nonneg (c / 4) (show (1000000000 : Int) ≠ 0 by decide)
    have g4 := Int.emod_lt_of_pos (c / 4) (show (0 : Int) < 1000000000 by decide)
    obtain ⟨v, hv, hat⟩ : ∃ v : Int, (0 ≤ v ∧ v < 1000000000) ∧ atI [PyData.int (c / 4 % 3), .int (c / 4 % 1000000000)] (if (decide (c / 7 % 4 = 1)) = true then 1 else 0) = some (.int v) := by
      split
      · exact ⟨_, ⟨g3, g4⟩, atI_nat (j := 1) rfl⟩
      · exact ⟨_, ⟨g1, by omega⟩, atI_nat (j := 0) rfl⟩
    clear g1 g2 g3 g4
    refine ⟨_, rfl, rfl, ?_⟩
    refine sd_norm (by walk_at "nrm") ?_
    refine sd_norm (by walk_at "nrm") ?_
    refine sd_cons <| s_append (ks := []) <| rd_nO 3 rfl ⟨_, _, _, rfl, rfl, by rw [List.length_map]; show _ < 2 ^ 24; omega, by decide, rm_of <| rd_ar <| rv_int <| rv_of <| rd_ix <| rd_list <| ro_cons <| rd_ar <| rv_of <| rd_ar <| rv_nF 5 rfl <| rv_int ⟨_, _, rfl, cdiv_s (by decide) (by decide), _, rfl, rv_int ⟨_, _, rfl, by decide, _, ⟨rfl, rfl⟩, ro_cons <| rd_ar <| rv_of <| rd_ar <| rv_nF 5 rfl <| rv_int ⟨_, _, rfl, cdiv_s (by decide) (by decide), _, rfl, rv_of <| rd_arI 1000000000 <| rv_int <| rv_int ⟨_, _, rfl, by walk_at "cond", by walk_at "num", _, rfl, _, _, rfl, by decide, _, ⟨rfl, rfl⟩, ro_nil ⟨Nat.le_of_ble_eq_true rfl, rv_of <| rd_int1 T.m_int <| ra_cons <| rv_of <| rd_cmp (hu65 hr) <| rv_of <| rd_ar <| rv_of <| rd_ar <| rv_nF 5 rfl <| rv_int ⟨_, _, rfl, cdiv_s (by decide) (by decide), _, rfl, rv_int ⟨_, _, rfl, by decide, _, rfl, rv_int ⟨_, _, rfl, trivial, _, rfl, ra_nil (.inr ⟨_, rfl, _, rfl, _, rfl, _, hat, _, rfl, _, _, rfl, trivial, _, ⟨rfl, rfl⟩, ?_⟩)⟩⟩⟩⟩⟩⟩⟩⟩⟩
    refine sd_norm (modE_eq (d' := numsD (ws ++ [1 + v])) rfl (by rw [modAt_nil, numsD, List.map_append]; rfl)) ?_
    refine sd_norm (by walk_at "nrm") ?_
    have hw2 : ∀ w ∈ ws ++ [1 + v], 1 ≤ w ∧ w ≤ 1000000000 := fun w hw => by
      rcases List.mem_append.mp hw with hw | hw
      · exact h3 w hw
      · rw [List.mem_singleton.mp hw]; omega
    have hwl : (ws ++ [1 + v]).length = k + 1 := by rw [List.length_append, h1]; rfl
    generalize ws ++ [1 + v] = ws2 at *
    have key : ∀ dl, DealQ cs os.length dl → (dls ++ [dl]).length = k + 1 ∧ ∀ d ∈ dls ++ [dl], DealQ cs os.length d := fun dl hdl => ⟨by rw [List.length_append, h2]; rfl, fun d hd => by
      rcases List.mem_append.mp hd with hd | hd
      · exact h4 d hd
      · rw [List.mem_singleton.mp hd]; exact hdl⟩
    refine sd_norm (by walk_at "nrm") ?_
    refine sd_cons <| s_if <| rt_cmp (hu65 hr) <| rv_of <| rd_ar <| rv_nF 5 rfl <| rv_int ⟨_, _, rfl, by decide, _, rfl, rv_int ⟨_, _, rfl, trivial, fun hb => ?_, fun hb => ?_⟩⟩
    · refine sd_norm (by walk_at "nrm") ?_
      refine sd_cons <| s_append (ks := []) <| rd_nO 4 rfl ⟨_, _, _, rfl, rfl, by rw [List.length_map]; show _ < 2 ^ 24; omega, by decide, rm_of <| rd_callN (callN (ok_law_any_deal T) hr) <| ra_cons <| rv_nF 5 rfl <| ra_cons <| rv_nF 1 rfl <| ra_cons <| rv_of <| rd_len T.m_len <| rv_nF 2 rfl ⟨_, _, rfl, trivial, _, rfl, ra_nil ⟨⟨c, cs, os.length, by rw [List.length_map], hn, hcb, ho1, ho6⟩, ?_⟩⟩⟩
      rintro d ⟨_, cs', a', dl, he2, rfl, hdl⟩
      have hdl : DealQ cs os.length dl := by
        simp only [List.cons.injEq, PyData.int.injEq, PyData.list.injEq, and_true, List.length_map] at he2
        have e1 : cs' = cs := by
          have := he2.2.1
          exact (List.map_inj_right (fun a b h => PyData.int.inj h)).mp this.symm
        have e2 : a' = os.length := by omega
        rw [← e1, ← e2]
        exact hdl
      obtain ⟨k1, k2⟩ := key dl hdl
      refine ⟨_, rfl, ?_⟩
      refine sd_norm (by walk_at "nrm") ?_
      refine sd_nil (sd_nil ⟨(ws2, dls ++ [dl]), ⟨⟨hwl, k1⟩, hw2, k2⟩, keep_intro ?_⟩)
      simp only [rowsD, List.map_append, List.map_cons, List.map_nil]
      rfl
    · refine sd_norm (by walk_at "nrm") ?_
      refine sd_cons <| s_append (ks := []) <| rd_nO 4 rfl ⟨_, _, _, rfl, rfl, by rw [List.length_map]; show _ < 2 ^ 24; omega, by decide, rm_of <| rd_callN (callN (ok_law_turn_deal T) hr) <| ra_cons <| rv_nF 5 rfl <| ra_cons <| rv_nF 1 rfl <| ra_cons <| rv_nF 2 rfl <| ra_nil ⟨⟨c, cs, os, rfl, hn, hcb, ho6, hO⟩, ?_⟩⟩
      rintro d ⟨_, cs', os', dl, he2, rfl, hdl⟩
      have hdl : DealQ cs os.length dl := by
        simp only [List.cons.injEq, PyData.int.injEq, PyData.list.injEq, and_true] at he2
        have e1 : cs' = cs := (List.map_inj_right (fun a b h => PyData.int.inj h)).mp he2.2.1.symm
        have e2 : os'.length = os.length := by
          have := congrArg List.length he2.2.2
          rw [List.length_map, List.length_map] at this
          exact this.symm
        rw [← e1, ← e2]
        exact hdl
      obtain ⟨k1, k2⟩ := key dl hdl
      refine ⟨_, rfl, ?_⟩
      refine sd_norm (by walk_at "nrm") ?_
      refine sd_nil (sd_nil ⟨(ws2, dls ++ [dl]), ⟨⟨hwl, k1⟩, hw2, k2⟩, keep_intro ?_⟩)
      simp only [rowsD, List.map_append, List.map_cons, List.map_nil]
      rfl
  obtain ⟨ws, dls⟩ := x
  obtain ⟨⟨h1, h2⟩, h3, h4⟩ := oa
  rw [List.length_map] at h1 h2
  replace h1 : ws.length = cells.length := h1
  replace h2 : dls.length = cells.length := h2
  have D : Drawn cs os.length ws dls := ⟨by omega, by omega, by omega, fun w hw => ⟨(h3 w hw).1, by have := (h3 w hw).2; omega⟩, h4⟩
  have hsb := sum_bds D.w
  have hwp := D.pos
  have hwf := D.few
  have hW0 : 0 < ws.sum := by omega
  have hWs : Sm ws.sum := smI 450 (by omega) (by decide)
  refine sd_norm (by walk_at "nrm") ?_
  refine sd_wipe [5] ?_
  refine sd_norm (by walk_at "nrm") ?_
  refine sd_norm (by walk_at "nrm") ?_
  refine sd_cons <| s_set (hN := sc_law_drawn.nd) 6 <| rd_list <| ro_nil ⟨Nat.le_of_ble_eq_true rfl, ?_⟩
  refine sd_norm (by walk_at "nrm") ?_
  refine sd_norm (by walk_at "nrm") ?_
  refine sd_cons ?_
  refine s_forT (α := Unit) (.one 7) [7, 8, 9, 10, 11, 12] ?_ PassesOwn.never rfl (pg_name (i := 7) sc_law_drawn.nd rfl (by first | exact .inl rfl | exact .inr rfl))
  refine ri_range1 T.m_range <| ra_cons <| rv_of <| rd_len T.m_len <| rv_nF 2 rfl ⟨_, _, rfl, trivial, _, rfl, ra_nil ⟨(os.length : Nat), by rw [List.length_map], by omega, by omega, ?_⟩⟩
  refine ⟨fun k _ => [(6, .ow (sharesD (drawnQ ws dls k cs.length)))], fun _ _ => True, ⟨(), trivial, keep_intro rfl⟩, ?_, fun f x oa => ?_⟩
  · rintro k d f _ he _
    obtain ⟨rfl, hk⟩ := rng_get he
    have hka : k < os.length := by omega
    have hdk : drawnQ ws dls (k + 1) cs.length = drawnQ ws dls k cs.length ++ [(List.range (cs.length + 1)).map fun (x : Nat) => Rat.divInt (drawnTop ws dls k (x : Int)) ws.sum] := by
      unfold drawnQ
      rw [List.range_succ (n := k), List.map_append]
      rfl
    have hdl : (drawnQ ws dls k cs.length).length = k := by unfold drawnQ; rw [List.length_map, List.length_range]
    refine ⟨_, rfl, rfl, ?_⟩
    rw [Int.zero_add]
    refine sd_norm (by walk_at "nrm") ?_
    refine sd_wipe [8, 9, 10, 11, 12] ?_
    refine sd_norm (by walk_at "nrm") ?_
    refine sd_norm (by walk_at "nrm") ?_
    refine sd_cons <| s_set (hN := sc_law_drawn.nd) 8 <| rd_list <| ro_nil ⟨Nat.le_of_ble_eq_true rfl, ?_⟩
    refine sd_norm (by walk_at "nrm") ?_
    refine sd_norm (by walk_at "nrm") ?_
    refine sd_cons ?_
    refine s_forT (α := Unit) (.one 9) [9, 10, 11, 12] ?_ PassesOwn.never rfl (pg_name (i := 9) sc_law_drawn.nd rfl (by first | exact .inl rfl | exact .inr rfl))
    refine ri_range1 T.m_range <| ra_cons <| rv_of <| rd_ar <| rv_of <| rd_len T.m_len <| rv_nF 1 rfl ⟨_, _, rfl, trivial, _, rfl, rv_int ⟨_, _, rfl, trivial, _, rfl, ra_nil ⟨((cs.length + 1 : Nat) : Int), by rw [List.length_map]; rfl, by omega, by omega, ?_⟩⟩⟩
    refine ⟨fun q _ => [(8, .ow (frsQ ((List.range q).map fun (x : Nat) => Rat.divInt (drawnTop ws dls k (x : Int)) ws.sum)))], fun _ _ => True, ⟨(), trivial, keep_intro rfl⟩, ?_, fun f x oa => ?_⟩
    · rintro q d f _ he _
      obtain ⟨rfl, hq⟩ := rng_get he
      refine ⟨_, rfl, rfl, ?_⟩
      rw [Int.zero_add]
      refine sd_norm (by walk_at "nrm") ?_
      refine sd_wipe [10, 11, 12] ?_
      refine sd_norm (by walk_at "nrm") ?_
      refine sd_norm (by walk_at "nrm") ?_
      refine sd_cons ?_
      refine s_set (hN := sc_law_drawn.nd) 10 ?_
      refine rd_sum rfl T.m_sum <| ra_cons <| rv_of ?_
      refine rd_lcIf (own := [("weight", 11), ("deal", 12)]) (.tup [11, 12]) (ws.zip dls) (fun p => PyData.tuple [.int p.1, numsD p.2]) (fun p => [.int p.1, numsD p.2]) (fun p => decide (p.2.getD k 0 = (q : Int))) (fun p => .int p.1) rfl sc_law_drawn.nd (blkOk_by rfl) (fun _ _ _ _ _ => pg_tup rfl (pgs_cons (pg_name (i := 11) sc_law_drawn.nd rfl (by first | exact .inl rfl | exact .inr rfl)) (pgs_cons (pg_name (i := 12) sc_law_drawn.nd rfl (by first | exact .inl rfl | exact .inr rfl)) pgs_nil))) ?_ ?_ ?_ ?_ ?_ ?_
      · exact ri_zip T.m_zip <| rfa_cons <| rf_of <| rd_nF 3 rfl ⟨_, rfl, rfa_cons <| rf_of <| rd_nF 4 rfl ⟨_, rfl, rfa_nil ⟨_, _, rfl, zipD_maps _ _ _ _⟩⟩⟩
      · rw [List.length_zip]; show _ ≤ 2 ^ 24; omega
      · exact fun a ha => rfl
      · intro p hp s H C cl fp
        have hpl := (D.dl p.2 (List.of_mem_zip hp).2).len
        have hat := atI_nums (xs := p.2) (k := k) (by omega)
        exact rt_cmp (hu65 hr) <| rv_of <| rd_ix <| rd_nF 12 rfl <| rv_nF 7 rfl ⟨_, rfl, _, hat, _, rfl, rv_nF 9 rfl ⟨_, _, rfl, trivial, rfl⟩⟩
      · intro p hp hkp s H C cl fp
        exact rd_nF 11 rfl ⟨rfl, rfl⟩
      refine ⟨_, rfl, ra_nil ⟨((ws.zip dls).filter fun p => decide (p.2.getD k 0 = (q : Int))).map (·.1), by rw [List.map_map]; rfl, ?_⟩⟩
      show BindD _ _ (.fz (.int (drawnTop ws dls k (q : Int)))) _
      refine sd_norm (by walk_at "nrm") ?_
      refine sd_norm (by walk_at "nrm") ?_
      refine sd_cons <| s_append (ks := []) <| rd_nO 8 rfl ⟨_, _, _, rfl, rfl, by rw [List.length_map, List.length_map, List.length_range]; show _ < 2 ^ 24; omega, by decide, rm_of <| rd_call (callC (ok_law_lowest T) hr) <| ra_cons <| rv_nF 10 rfl <| ra_cons <| rv_of <| rd_sum rfl T.m_sum <| ra_cons <| rv_nO 3 rfl <| ra_nil ⟨ws, rfl, _, rfl, ra_nil ⟨_, ⟨_, _, rfl, hW0, hWs, rfl⟩, _, ⟨rfl, rfl⟩, ?_⟩⟩⟩
      refine sd_norm (by walk_at "nrm") ?_
      refine sd_nil ⟨(), trivial, keep_intro ?_⟩
      simp only [List.range_succ, frsQ, List.map_append, List.map_cons, List.map_nil]
      rfl
    refine sd_norm (by walk_at "nrm") ?_
    refine sd_wipe [9, 10, 11, 12] ?_
    refine sd_norm (by walk_at "nrm") ?_
    rw [rngD_len, Int.toNat_natCast]
    refine sd_norm (by walk_at "nrm") ?_
    refine sd_cons <| s_append (ks := [8]) <| rd_nO 6 rfl ⟨_, _, _, rfl, rfl, by rw [List.length_map, hdl]; show _ < 2 ^ 24; omega, by decide, rm_name 8 rfl ?_⟩
    refine sd_norm (by walk_at "nrm") ?_
    refine sd_nil ⟨(), trivial, keep_intro ?_⟩
    simp only [hdk, sharesD, List.map_append, List.map_cons, List.map_nil]
    rfl
  refine sd_norm (by walk_at "nrm") ?_
  refine sd_wipe [7, 8, 9, 10, 11, 12] ?_
  refine sd_norm (by walk_at "nrm") ?_
  rw [rngD_len, Int.toNat_natCast]
  refine sd_norm (by walk_at "nrm") ?_
  refine sd_cons <| s_ret <| rd_nO 6 rfl ⟨_, rfl, _, .inl rfl, cells, cs, os, ws, dls, rfl, rfl, D⟩
def A_law_tabled (ds : List PyData) : Prop := ∃ ns : List Int, ds = [numsD ns]
def R_law_tabled (ds : List PyData) (d : PyData) : Prop := ∃ (cs : List Int) (os : List (List Int)), d = tabD (cs, os) ∧ TabQ cs os
theorem ok_law_tabled (T : Txt K mg) : FnN P0 w K mg base "_law_tabled" 4 A_law_tabled R_law_tabled := by
  refine fn_N T.f_law_tabled sc_law_tabled (fun ds ⟨ns, e⟩ => by rw [e]; rfl) (fun f cdv A outer s H E hr ds ⟨ns, hds⟩ => ?_)
  subst hds
  refine sd_norm (by walk_at "nrm") ?_
  refine sd_cons <| s_set (hN := sc_law_tabled.nd) 1 <| rd_ar <| rv_of <| rd_call (callC (ok_law_cell_at T) hr) <| ra_cons <| rv_nF 0 rfl <| ra_cons <| rv_int <| ra_nil ⟨_, ⟨ns, 0, rfl, by decide, rfl⟩, _, rfl, rv_int ⟨_, _, rfl, by decide, ?_⟩⟩
  have hm0 := Int.emod_nonneg (cell ns 0) (show (7 : Int) ≠ 0 by decide)
  have hm1 := Int.emod_lt_of_pos (cell ns 0) (show (0 : Int) < 7 by decide)
  obtain ⟨n, hn⟩ : ∃ n : Nat, cell ns 0 % 7 = n := ⟨(cell ns 0 % 7).toNat, by omega⟩
  rw [hn]
  have hn6 : n ≤ 6 := by omega
  have ha0 := Int.emod_nonneg (cell ns 0 / 7) (show (6 : Int) ≠ 0 by decide)
  have ha1 := Int.emod_lt_of_pos (cell ns 0 / 7) (show (0 : Int) < 6 by decide)
  obtain ⟨a, ha⟩ : ∃ a : Nat, 1 + cell ns 0 / 7 % 6 = a := ⟨(1 + cell ns 0 / 7 % 6).toNat, by omega⟩
  refine sd_norm (by walk_at "nrm") ?_
  refine sd_norm (by walk_at "nrm") ?_
  refine sd_cons <| s_set (hN := sc_law_tabled.nd) 2 <| rd_ar <| rv_int <| rv_of <| rd_ar <| rv_of <| rd_ar <| rv_of <| rd_call (callC (ok_law_cell_at T) hr) <| ra_cons <| rv_nF 0 rfl <| ra_cons <| rv_int <| ra_nil ⟨_, ⟨ns, 0, rfl, by decide, rfl⟩, _, rfl, rv_int ⟨_, _, rfl, cdiv_s (by decide) (by decide), _, rfl, rv_int ⟨_, _, rfl, by decide, _, rfl, _, _, rfl, trivial, ?_⟩⟩⟩
  rw [ha]
  refine sd_norm (by walk_at "nrm") ?_
  refine sd_norm (by walk_at "nrm") ?_
  refine sd_cons <| s_set (hN := sc_law_tabled.nd) 3 <| rd_callN (callN (ok_law_orders T) hr) <| ra_cons <| rv_of ?_
  refine rd_lc (own := [("k", 4)]) (.one 4) (List.range a) (fun (j : Nat) => PyData.int (0 + (j : Int))) (fun (j : Nat) => [.int (0 + (j : Int))]) (fun (j : Nat) => .int (cell ns (2 + (0 + (j : Int))))) rfl sc_law_tabled.nd (blkOk_by rfl) (fun _ _ _ _ _ => pg_name (i := 4) sc_law_tabled.nd rfl (by first | exact .inl rfl | exact .inr rfl)) ?_ ?_ ?_ ?_ ?_
  · exact ri_range1 T.m_range <| ra_cons <| rv_nF 2 rfl <| ra_nil ⟨(a : Nat), rfl, by omega, by omega, rfl⟩
  · rw [List.length_range]; show _ ≤ 2 ^ 24; omega
  · exact fun a ha => rfl
  · intro j hj s H C cl fp
    exact rd_call (callC (ok_law_cell_at T) hr) <| ra_cons <| rv_nF 0 rfl <| ra_cons <| rv_of <| rd_ar <| rv_int <| rv_nF 4 rfl ⟨_, _, rfl, trivial, _, rfl, ra_nil ⟨_, ⟨ns, _, rfl, by omega, rfl⟩, rfl, rfl⟩⟩
  refine ⟨_, rfl, ra_cons <| rv_nF 1 rfl <| ra_nil ⟨⟨(List.range a).map fun (j : Nat) => cell ns (2 + (0 + (j : Int))), n, by rw [numsD, List.map_map]; rfl, by omega, by rw [List.length_map, List.length_range]; omega⟩, ?_⟩⟩
  rintro d ⟨cl, n2, os, he2, rfl, hol, hoq⟩
  have he3 : (n : Int) = n2 ∧ os.length = a := by
    simp only [List.cons.injEq, PyData.list.injEq, PyData.int.injEq, and_true] at he2
    refine ⟨he2.2, ?_⟩
    rw [hol]
    have := congrArg List.length he2.1
    rw [List.length_map, List.length_map, List.length_range] at this
    exact this.symm
  obtain ⟨e1, e2⟩ := he3
  obtain rfl : n2 = n := by omega
  clear he2 hol
  refine sd_norm (by walk_at "nrm") ?_
  refine sd_norm (by walk_at "nrm") ?_
  refine sd_cons <| s_retM <| rm_tuple <| rma_cons (ks := []) (ks2 := [3]) <| rm_of <| rd_callN (callN (ok_law_counts T) hr) <| ra_cons <| rv_of <| rd_call (callC (ok_law_cell_at T) hr) <| ra_cons <| rv_nF 0 rfl <| ra_cons <| rv_int <| ra_nil ⟨_, ⟨ns, 1, rfl, by decide, rfl⟩, _, rfl, ra_cons <| rv_nF 1 rfl <| ra_nil ⟨⟨_, n2, rfl, by omega⟩, ?_⟩⟩
  rintro d ⟨_, n3, cs, he2, rfl, hcl, hcb⟩
  obtain rfl : n3 = n2 := by
    simp only [List.cons.injEq, PyData.int.injEq, and_true] at he2
    omega
  refine ⟨_, rfl, rma_cons (ks := [3]) (ks2 := []) <| rm_name 3 rfl <| rma_nil ⟨Nat.le_of_ble_eq_true rfl, _, .inl rfl, cs, os, rfl, ⟨by omega, by omega, by omega, hcb, by rw [hcl]; exact hoq⟩⟩⟩
theorem ok_law (T : Txt K mg) {fl : Addr} {fdl : FuncData} (F : Fun K "law" "law" s_law fl fdl) : FnOk P0 w K mg base CX0 5 fl fdl ["script"] (spLawD K 63) := by
  refine law_okD F sc_law (fun cdv A outer s H E hr ns hns => ?_)
  refine sd_norm (by walk_at "nrm") ?_
  refine sd_cons ?_
  refine s_unpack [1, 2] ?_ (pg_tup rfl (pgs_cons (pg_name (i := 1) sc_law.nd rfl (by first | exact .inl rfl | exact .inr rfl)) (pgs_cons (pg_name (i := 2) sc_law.nd rfl (by first | exact .inl rfl | exact .inr rfl)) pgs_nil)))
  refine rf_of <| rd_callN (callN (ok_law_tabled T) hr) <| ra_cons <| rv_nF 0 rfl <| ra_nil ⟨⟨ns, rfl⟩, ?_⟩
  rintro d ⟨cs, os, rfl, Q⟩
  refine ⟨_, rfl, _, rfl, rfl, ?_⟩
  refine sd_norm (by walk_at "nrm") ?_
  have M := Q.m
  have hn6 := Q.n
  have ha1 := Q.a1
  have ha6 := Q.a
  refine sd_norm (by walk_at "nrm") ?_
  refine sd_cons <| s_set (hN := sc_law.nd) 3 <| rd_slice <| rd_nF 0 rfl <| rp_some <| rv_int ⟨_, rfl, rp_some <| rv_int ⟨_, rfl, _, rfl, .inl ⟨lfs_ints _, ?_⟩⟩⟩
  rw [show cutD (ns.map PyData.int) (some 9) (some 14) = ((ns.take 14).drop 9).map PyData.int by rw [List.map_drop, List.map_take]; exact cut_lohi _ 9 14]
  have hcl8 : ((ns.take 14).drop 9).length ≤ 6 := by rw [List.length_drop, List.length_take]; omega
  generalize (ns.take 14).drop 9 = cells0 at *
  refine sd_norm (by walk_at "nrm") ?_
  refine sd_norm (by walk_at "nrm") ?_
  refine sd_join (fun ρ => ∃ cl : List Int, 1 ≤ cl.length ∧ cl.length ≤ 6 ∧ ρ = [.fz (numsD ns), .fz (numsD cs), .fz (rowsD os), .ow (numsD cl), .un, .un, .un, .un, .un, .un, .un]) ?_ ?_
  · refine s_if <| rt_eqN (hu65 hr) <| rv_nO 3 rfl <| rv_of <| rd_list <| ro_nil ⟨Nat.le_of_ble_eq_true rfl, _, rfl, nb_ints _, rfl, Nat.le_trans (Nat.min_le_right _ _) (by decide), fun r hr => ⟨fun hb => ?_, fun hb => ?_⟩⟩
    · refine sd_norm (by walk_at "nrm") ?_
      refine sd_cons <| s_set (hN := sc_law.nd) 3 <| rd_list <| ro_cons <| rd_call (callC (ok_law_cell_at T) ‹_›) <| ra_cons <| rv_nF 0 rfl <| ra_cons <| rv_int <| ra_nil ⟨_, ⟨ns, 8, rfl, by decide, rfl⟩, _, ⟨rfl, rfl⟩, ro_nil ⟨Nat.le_of_ble_eq_true rfl, ?_⟩⟩
      refine sd_norm (by walk_at "nrm") ?_
      refine sd_nil ⟨[cell ns 8], Nat.le_of_ble_eq_true rfl, Nat.le_of_ble_eq_true rfl, rfl⟩
    · refine sd_norm (by walk_at "nrm") ?_
      refine sd_nil ⟨cells0, ?_, hcl8, rfl⟩
      have : ¬ (PyData.list (cells0.map PyData.int) = .list []) := fun z => by rw [hr.mpr z] at hb; cases hb
      cases cells0 with
      | nil => exact absurd rfl this
      | cons a r => simp
  rintro ρ ⟨cl, hcl1, hcl6, rfl⟩
  refine sd_norm (by walk_at "nrm") ?_
  refine sd_cons <| s_setF (hN := sc_law.nd) 4 <| rd_callN (callN (ok_law_drawn T) hr) <| ra_cons <| rv_nO 3 rfl <| ra_cons <| rv_nF 1 rfl <| ra_cons <| rv_nF 2 rfl <| ra_nil ⟨⟨cl, cs, os, rfl, hn6, Q.c, ha1, ha6, Q.o, hcl1, hcl6⟩, ?_⟩
  rintro d ⟨_, cs', os', ws, dls, he2, rfl, D⟩
  obtain ⟨e1, e2⟩ : cs' = cs ∧ os' = os := by
    simp only [List.cons.injEq, and_true] at he2
    exact ⟨nums_inj he2.2.1.symm, rows_inj he2.2.2.symm⟩
  subst e1 e2
  clear he2
  have hsl : (drawnQ ws dls os'.length cs'.length).length = os'.length := drawnQ_len ..
  obtain ⟨P, hw5⟩ := D.shp hn6 ha1 ha6
  have X0 := P.x (by decide)
  have hrl := P.row
  generalize drawnQ ws dls os'.length cs'.length = sh at *
  refine ⟨_, rfl, ?_⟩
  refine sd_norm (by walk_at "nrm") ?_
  refine sd_wipe [3] ?_
  refine sd_norm (by walk_at "nrm") ?_
  refine sd_norm (by walk_at "nrm") ?_
  refine sd_cons <| s_setF (hN := sc_law.nd) 5 <| rd_call (callC (ok_table_of T) hr) <| ra_cons <| rv_of <| rd_listof T.m_list <| ra_cons <| rv_nF 1 rfl <| ra_nil ⟨_, .inl rfl, lfs_ints _, _, rfl, ra_cons <| rv_of ?_⟩
  refine rd_lc (own := [("order", 6)]) (.one 6) os' numsD (fun o => [numsD o]) numsD rfl sc_law.nd (blkOk_by rfl) (fun _ _ _ _ _ => pg_name (i := 6) sc_law.nd rfl (by first | exact .inl rfl | exact .inr rfl)) ?_ ?_ ?_ ?_ ?_
  · refine ri_list <| rf_of <| rd_nF 2 rfl ⟨_, rfl, _, rfl, rfl⟩
  · show _ ≤ 2 ^ 24; omega
  · exact fun a ha => rfl
  · intro a ha s H C cl fp
    exact rd_listof T.m_list <| ra_cons <| rv_nF 6 rfl <| ra_nil ⟨_, .inl rfl, lfs_ints _, rfl⟩
  refine ⟨_, rfl, ra_nil ⟨_, ⟨(cs', os'), rfl, M, ha1, rfl⟩, _, rfl, ?_⟩⟩
  refine sd_norm (by walk_at "nrm") ?_
  have ok : WishOk cs' os' sh _ := ⟨Q, hsl, X0, hrl⟩
  refine sd_norm (by walk_at "nrm") ?_
  refine sd_cons <| s_setF (hN := sc_law.nd) 7 <| rd_call (callC (ok_law_due T) hr) <| ra_cons <| rv_of <| rd_len T.m_len <| rv_nF 1 rfl ⟨_, _, rfl, trivial, _, rfl, ra_cons <| rv_nF 2 rfl <| ra_cons <| rv_nF 4 rfl <| ra_nil ⟨_, ⟨cs', os', sh, _, by simp only [List.length_map, List.cons_append, List.nil_append], ok, rfl⟩, _, rfl, ?_⟩⟩
  refine sd_norm (by walk_at "nrm") ?_
  refine sd_wipe [6] ?_
  refine sd_norm (by walk_at "nrm") ?_
  refine sd_norm (by walk_at "nrm") ?_
  refine sd_cons ?_
  refine s_lcF 8 (own := [("row", 9)]) (.one 9) sh frsQ (fun r => [frsQ r]) frsQ rfl sc_law.nd (blkOk_by rfl) (fun _ _ _ _ _ => (pg_name (i := 9) sc_law.nd rfl (by first | exact .inl rfl | exact .inr rfl))) ?_ ?_ ?_ ?_ ?_
  · exact ri_list <| rf_of <| rd_nF 4 rfl ⟨_, rfl, _, rfl, rfl⟩
  · show _ ≤ 2 ^ 24; omega
  · exact fun a ha => rfl
  · intro a ha s H C cl fp
    exact rd_listof T.m_list <| ra_cons <| rv_nF 9 rfl <| ra_nil ⟨_, .inl rfl, lfs_frs _, rfl⟩
  refine sd_norm (by walk_at "nrm") ?_
  refine sd_wipe [9] ?_
  refine sd_norm (by walk_at "nrm") ?_
  have hO : ∀ i < sh.length, OrdQ cs'.length (os'.getD i []) := fun i hi => Q.o _ (by rw [List.getD_eq_getElem?_getD, List.getElem?_eq_getElem (by omega)]; exact List.getElem_mem _)
  have hres : ∀ d, R_over_pairs [tabD (cs', os'), sharesD sh] d → d = tupsN (dueQ cs'.length os' sh) := fun d ⟨cs2, os2, sh2, W2, tss, he, ok2, hd, nd, mem, pw⟩ => by
    simp only [List.cons.injEq, and_true] at he
    have e1 := tab_inj he.1
    have e2 := sharesD_inj he.2
    simp only [Prod.mk.injEq] at e1
    obtain ⟨e3, e4⟩ := e1
    subst e2 e3 e4
    have hdu : tss = dueQ cs'.length os' sh := due_uniq (n := cs'.length) (os := os') (sh := sh) (by omega) nd pw fun t => (mem t).trans ((pairs_iff (m := sh.length) hO).trans (by rw [hsl]))
    rw [hd, hdu]
  have h2 : ∀ t ∈ dueQ cs'.length os' sh, t.length = 2 := fun t ht => by
    obtain ⟨b, x, rfl, _⟩ := allPk_mem.mp (List.mem_filter.mp ht).1
    rfl
  have hdl : (dueQ cs'.length os' sh).length ≤ 1000 := by
    refine Nat.le_trans (List.length_filter_le _ _) ?_
    have key : ∀ k, (allPk cs'.length k).length = k * (cs'.length + 1) := fun k => by
      induction k with
      | zero => rw [Nat.zero_mul]; rfl
      | succ k ih => rw [allPk, List.length_append, ih, rowP, List.length_map, List.length_range, Nat.succ_mul]
    rw [key]
    exact Nat.le_trans (Nat.mul_le_mul (show cs'.length + 1 ≤ 7 by omega) (show cs'.length + 1 ≤ 7 by omega)) (by decide)
  refine sd_norm (by walk_at "nrm") ?_
  refine sd_cons <| s_set (hN := sc_law.nd) 10 <| rd_callN (callN (ok_over_pairs T) hr) <| ra_cons <| rv_nF 5 rfl <| ra_cons <| rv_nF 8 rfl <| ra_nil ⟨⟨cs', os', sh, _, rfl, ok⟩, ?_⟩
  intro d hd
  obtain rfl := hres d hd
  generalize dueQ cs'.length os' sh = L at *
  show SD _ _ (setV _ 10 (.ow (tupsN L))) _
  refine sd_norm (by walk_at "nrm") ?_
  refine sd_norm (by walk_at "nrm") ?_
  refine sd_cons ?_
  refine s_ifF ?_ ?_
  · refine rt_bool ?_
    refine rw_orF ?_ ?_
    · refine rt_notK ?_
      refine rt_val ?_
      exact rv_of <| rd_call (callC (ok_law_told T) hr) <| ra_cons <| rv_nO 10 rfl <| ra_cons <| rv_nF 7 rfl <| ra_nil ⟨_, ⟨L, rfl, h2, rfl⟩, _, rfl, _, rfl, rfl⟩
    refine rw_orF ?_ ?_
    · exact rt_nsame (hu65 hr) <| rv_nF 8 rfl <| rv_nF 4 rfl ⟨rfl, pl_shares sh, rfl⟩
    refine rw_or1 ?_
    exact rt_nsame (hu65 hr) <| rv_nF 5 rfl <| rv_tup <| ra_cons <| rv_nF 1 rfl <| ra_cons <| rv_nF 2 rfl <| ra_nil ⟨Nat.le_of_ble_eq_true rfl, rfl, pl_tab (cs', os'), rfl⟩
  refine sd_norm (by walk_at "nrm") ?_
  refine sd_nil ?_
  refine sd_norm (by walk_at "nrm") ?_
  refine sd_norm (by walk_at "nrm") ?_
  refine sd_cons <| s_append (ks := []) <| rd_nO 10 rfl ⟨_, _, _, rfl, rfl, by rw [List.length_map]; show _ < 2 ^ 24; omega, by decide, rm_of <| rd_tuple <| ro_cons <| rd_int ⟨_, ⟨rfl, rfl⟩, ro_cons <| rd_int ⟨_, ⟨rfl, rfl⟩, ro_nil ⟨Nat.le_of_ble_eq_true rfl, _, ⟨rfl, rfl⟩, ?_⟩⟩⟩⟩
  refine sd_norm (by walk_at "nrm") ?_
  refine sd_wipe [10] ?_
  refine sd_norm (by walk_at "nrm") ?_
  refine sd_norm (by walk_at "nrm") ?_
  refine sd_cons <| s_ret <| rd_call (callC (ok_law_told T) hr) <| ra_cons <| rv_of <| rd_callN (callN (ok_over_pairs T) hr) <| ra_cons <| rv_nF 5 rfl <| ra_cons <| rv_nF 8 rfl <| ra_nil ⟨⟨cs', os', sh, _, rfl, ok⟩, fun d hd => ?_⟩
  obtain rfl := hres d hd
  exact ⟨_, rfl, ra_cons <| rv_nF 7 rfl <| ra_nil ⟨_, ⟨L, rfl, h2, rfl⟩, _, rfl, rfl⟩⟩

end
theorem all_mk {l : PySem.W.OpenLaw} {w : World} {K : PySem.W.Frag} {h : Heap} {mg : Str → Option Value} {fa : Addr} (X : K.In h) (G : h.Ns mainGlobals mg) (hfa : mg "law" = some (.ref fa))
    {f0 : Addr} {od0 an0 : Option Addr} {sl0 : Array (Option Value)} {oc0 kV0 dc0 pm0 cd0 ct0 : Value} (a0 : PySem.W.nsIn K mainGlobals "under" = some (some (.ref f0))) (l0 : K.lookup f0 = some ⟨oc0, od0, .func (PySem.W.fnOf "under" "under" (defArgs s_under) (defBody s_under) (defScope s_under) .none kV0 dc0 pm0 an0 cd0 ct0), sl0⟩) (c0 : PySem.W.codeIn K cd0 "under" = true) (k0 : PySem.W.keepIn K (.ref f0) = true)
    {f1 : Addr} {od1 an1 : Option Addr} {sl1 : Array (Option Value)} {oc1 kV1 dc1 pm1 cd1 ct1 : Value} (a1 : PySem.W.nsIn K mainGlobals "table_of" = some (some (.ref f1))) (l1 : K.lookup f1 = some ⟨oc1, od1, .func (PySem.W.fnOf "table_of" "table_of" (defArgs s_table_of) (defBody s_table_of) (defScope s_table_of) .none kV1 dc1 pm1 an1 cd1 ct1), sl1⟩) (c1 : PySem.W.codeIn K cd1 "table_of" = true) (k1 : PySem.W.keepIn K (.ref f1) = true)
    {f2 : Addr} {od2 an2 : Option Addr} {sl2 : Array (Option Value)} {oc2 kV2 dc2 pm2 cd2 ct2 : Value} (a2 : PySem.W.nsIn K mainGlobals "full_order" = some (some (.ref f2))) (l2 : K.lookup f2 = some ⟨oc2, od2, .func (PySem.W.fnOf "full_order" "full_order" (defArgs s_full_order) (defBody s_full_order) (defScope s_full_order) .none kV2 dc2 pm2 an2 cd2 ct2), sl2⟩) (c2 : PySem.W.codeIn K cd2 "full_order" = true) (k2 : PySem.W.keepIn K (.ref f2) = true)
    {f3 : Addr} {od3 an3 : Option Addr} {sl3 : Array (Option Value)} {oc3 kV3 dc3 pm3 cd3 ct3 : Value} (a3 : PySem.W.nsIn K mainGlobals "wishes_in" = some (some (.ref f3))) (l3 : K.lookup f3 = some ⟨oc3, od3, .func (PySem.W.fnOf "wishes_in" "wishes_in" (defArgs s_wishes_in) (defBody s_wishes_in) (defScope s_wishes_in) .none kV3 dc3 pm3 an3 cd3 ct3), sl3⟩) (c3 : PySem.W.codeIn K cd3 "wishes_in" = true) (k3 : PySem.W.keepIn K (.ref f3) = true)
    {f4 : Addr} {od4 an4 : Option Addr} {sl4 : Array (Option Value)} {oc4 kV4 dc4 pm4 cd4 ct4 : Value} (a4 : PySem.W.nsIn K mainGlobals "over_pairs" = some (some (.ref f4))) (l4 : K.lookup f4 = some ⟨oc4, od4, .func (PySem.W.fnOf "over_pairs" "over_pairs" (defArgs s_over_pairs) (defBody s_over_pairs) (defScope s_over_pairs) .none kV4 dc4 pm4 an4 cd4 ct4), sl4⟩) (c4 : PySem.W.codeIn K cd4 "over_pairs" = true) (k4 : PySem.W.keepIn K (.ref f4) = true)
    {f5 : Addr} {od5 an5 : Option Addr} {sl5 : Array (Option Value)} {oc5 kV5 dc5 pm5 cd5 ct5 : Value} (a5 : PySem.W.nsIn K mainGlobals "_law_cell_at" = some (some (.ref f5))) (l5 : K.lookup f5 = some ⟨oc5, od5, .func (PySem.W.fnOf "_law_cell_at" "_law_cell_at" (defArgs s_law_cell_at) (defBody s_law_cell_at) (defScope s_law_cell_at) .none kV5 dc5 pm5 an5 cd5 ct5), sl5⟩) (c5 : PySem.W.codeIn K cd5 "_law_cell_at" = true) (k5 : PySem.W.keepIn K (.ref f5) = true)
    {f6 : Addr} {od6 an6 : Option Addr} {sl6 : Array (Option Value)} {oc6 kV6 dc6 pm6 cd6 ct6 : Value} (a6 : PySem.W.nsIn K mainGlobals "_law_stream" = some (some (.ref f6))) (l6 : K.lookup f6 = some ⟨oc6, od6, .func (PySem.W.fnOf "_law_stream" "_law_stream" (defArgs s_law_stream) (defBody s_law_stream) (defScope s_law_stream) .none kV6 dc6 pm6 an6 cd6 ct6), sl6⟩) (c6 : PySem.W.codeIn K cd6 "_law_stream" = true) (k6 : PySem.W.keepIn K (.ref f6) = true)
    {f7 : Addr} {od7 an7 : Option Addr} {sl7 : Array (Option Value)} {oc7 kV7 dc7 pm7 cd7 ct7 : Value} (a7 : PySem.W.nsIn K mainGlobals "_law_order" = some (some (.ref f7))) (l7 : K.lookup f7 = some ⟨oc7, od7, .func (PySem.W.fnOf "_law_order" "_law_order" (defArgs s_law_order) (defBody s_law_order) (defScope s_law_order) .none kV7 dc7 pm7 an7 cd7 ct7), sl7⟩) (c7 : PySem.W.codeIn K cd7 "_law_order" = true) (k7 : PySem.W.keepIn K (.ref f7) = true)
    {f8 : Addr} {od8 an8 : Option Addr} {sl8 : Array (Option Value)} {oc8 kV8 dc8 pm8 cd8 ct8 : Value} (a8 : PySem.W.nsIn K mainGlobals "_law_orders" = some (some (.ref f8))) (l8 : K.lookup f8 = some ⟨oc8, od8, .func (PySem.W.fnOf "_law_orders" "_law_orders" (defArgs s_law_orders) (defBody s_law_orders) (defScope s_law_orders) .none kV8 dc8 pm8 an8 cd8 ct8), sl8⟩) (c8 : PySem.W.codeIn K cd8 "_law_orders" = true) (k8 : PySem.W.keepIn K (.ref f8) = true)
    {f9 : Addr} {od9 an9 : Option Addr} {sl9 : Array (Option Value)} {oc9 kV9 dc9 pm9 cd9 ct9 : Value} (a9 : PySem.W.nsIn K mainGlobals "_law_counts" = some (some (.ref f9))) (l9 : K.lookup f9 = some ⟨oc9, od9, .func (PySem.W.fnOf "_law_counts" "_law_counts" (defArgs s_law_counts) (defBody s_law_counts) (defScope s_law_counts) .none kV9 dc9 pm9 an9 cd9 ct9), sl9⟩) (c9 : PySem.W.codeIn K cd9 "_law_counts" = true) (k9 : PySem.W.keepIn K (.ref f9) = true)
    {f10 : Addr} {od10 an10 : Option Addr} {sl10 : Array (Option Value)} {oc10 kV10 dc10 pm10 cd10 ct10 : Value} (a10 : PySem.W.nsIn K mainGlobals "_law_divisor" = some (some (.ref f10))) (l10 : K.lookup f10 = some ⟨oc10, od10, .func (PySem.W.fnOf "_law_divisor" "_law_divisor" (defArgs s_law_divisor) (defBody s_law_divisor) (defScope s_law_divisor) .none kV10 dc10 pm10 an10 cd10 ct10), sl10⟩) (c10 : PySem.W.codeIn K cd10 "_law_divisor" = true) (k10 : PySem.W.keepIn K (.ref f10) = true)
    {f11 : Addr} {od11 an11 : Option Addr} {sl11 : Array (Option Value)} {oc11 kV11 dc11 pm11 cd11 ct11 : Value} (a11 : PySem.W.nsIn K mainGlobals "_law_lowest" = some (some (.ref f11))) (l11 : K.lookup f11 = some ⟨oc11, od11, .func (PySem.W.fnOf "_law_lowest" "_law_lowest" (defArgs s_law_lowest) (defBody s_law_lowest) (defScope s_law_lowest) .none kV11 dc11 pm11 an11 cd11 ct11), sl11⟩) (c11 : PySem.W.codeIn K cd11 "_law_lowest" = true) (k11 : PySem.W.keepIn K (.ref f11) = true)
    {f12 : Addr} {od12 an12 : Option Addr} {sl12 : Array (Option Value)} {oc12 kV12 dc12 pm12 cd12 ct12 : Value} (a12 : PySem.W.nsIn K mainGlobals "_law_turn_deal" = some (some (.ref f12))) (l12 : K.lookup f12 = some ⟨oc12, od12, .func (PySem.W.fnOf "_law_turn_deal" "_law_turn_deal" (defArgs s_law_turn_deal) (defBody s_law_turn_deal) (defScope s_law_turn_deal) .none kV12 dc12 pm12 an12 cd12 ct12), sl12⟩) (c12 : PySem.W.codeIn K cd12 "_law_turn_deal" = true) (k12 : PySem.W.keepIn K (.ref f12) = true)
    {f13 : Addr} {od13 an13 : Option Addr} {sl13 : Array (Option Value)} {oc13 kV13 dc13 pm13 cd13 ct13 : Value} (a13 : PySem.W.nsIn K mainGlobals "_law_any_deal" = some (some (.ref f13))) (l13 : K.lookup f13 = some ⟨oc13, od13, .func (PySem.W.fnOf "_law_any_deal" "_law_any_deal" (defArgs s_law_any_deal) (defBody s_law_any_deal) (defScope s_law_any_deal) .none kV13 dc13 pm13 an13 cd13 ct13), sl13⟩) (c13 : PySem.W.codeIn K cd13 "_law_any_deal" = true) (k13 : PySem.W.keepIn K (.ref f13) = true)
    {f14 : Addr} {od14 an14 : Option Addr} {sl14 : Array (Option Value)} {oc14 kV14 dc14 pm14 cd14 ct14 : Value} (a14 : PySem.W.nsIn K mainGlobals "_law_drawn" = some (some (.ref f14))) (l14 : K.lookup f14 = some ⟨oc14, od14, .func (PySem.W.fnOf "_law_drawn" "_law_drawn" (defArgs s_law_drawn) (defBody s_law_drawn) (defScope s_law_drawn) .none kV14 dc14 pm14 an14 cd14 ct14), sl14⟩) (c14 : PySem.W.codeIn K cd14 "_law_drawn" = true) (k14 : PySem.W.keepIn K (.ref f14) = true)
    {f15 : Addr} {od15 an15 : Option Addr} {sl15 : Array (Option Value)} {oc15 kV15 dc15 pm15 cd15 ct15 : Value} (a15 : PySem.W.nsIn K mainGlobals "_law_tabled" = some (some (.ref f15))) (l15 : K.lookup f15 = some ⟨oc15, od15, .func (PySem.W.fnOf "_law_tabled" "_law_tabled" (defArgs s_law_tabled) (defBody s_law_tabled) (defScope s_law_tabled) .none kV15 dc15 pm15 an15 cd15 ct15), sl15⟩) (c15 : PySem.W.codeIn K cd15 "_law_tabled" = true) (k15 : PySem.W.keepIn K (.ref f15) = true)
    {f16 : Addr} {od16 an16 : Option Addr} {sl16 : Array (Option Value)} {oc16 kV16 dc16 pm16 cd16 ct16 : Value} (a16 : PySem.W.nsIn K mainGlobals "_law_place" = some (some (.ref f16))) (l16 : K.lookup f16 = some ⟨oc16, od16, .func (PySem.W.fnOf "_law_place" "_law_place" (defArgs s_law_place) (defBody s_law_place) (defScope s_law_place) .none kV16 dc16 pm16 an16 cd16 ct16), sl16⟩) (c16 : PySem.W.codeIn K cd16 "_law_place" = true) (k16 : PySem.W.keepIn K (.ref f16) = true)
    {f17 : Addr} {od17 an17 : Option Addr} {sl17 : Array (Option Value)} {oc17 kV17 dc17 pm17 cd17 ct17 : Value} (a17 : PySem.W.nsIn K mainGlobals "_law_due" = some (some (.ref f17))) (l17 : K.lookup f17 = some ⟨oc17, od17, .func (PySem.W.fnOf "_law_due" "_law_due" (defArgs s_law_due) (defBody s_law_due) (defScope s_law_due) .none kV17 dc17 pm17 an17 cd17 ct17), sl17⟩) (c17 : PySem.W.codeIn K cd17 "_law_due" = true) (k17 : PySem.W.keepIn K (.ref f17) = true)
    {f18 : Addr} {od18 an18 : Option Addr} {sl18 : Array (Option Value)} {oc18 kV18 dc18 pm18 cd18 ct18 : Value} (a18 : PySem.W.nsIn K mainGlobals "_law_told" = some (some (.ref f18))) (l18 : K.lookup f18 = some ⟨oc18, od18, .func (PySem.W.fnOf "_law_told" "_law_told" (defArgs s_law_told) (defBody s_law_told) (defScope s_law_told) .none kV18 dc18 pm18 an18 cd18 ct18), sl18⟩) (c18 : PySem.W.codeIn K cd18 "_law_told" = true) (k18 : PySem.W.keepIn K (.ref f18) = true)
    {f19 : Addr} {od19 an19 : Option Addr} {sl19 : Array (Option Value)} {oc19 kV19 dc19 pm19 cd19 ct19 : Value} (a19 : PySem.W.nsIn K mainGlobals "law" = some (some (.ref f19))) (l19 : K.lookup f19 = some ⟨oc19, od19, .func (PySem.W.fnOf "law" "law" (defArgs s_law) (defBody s_law) (defScope s_law) .none kV19 dc19 pm19 an19 cd19 ct19), sl19⟩) (c19 : PySem.W.codeIn K cd19 "law" = true) (k19 : PySem.W.keepIn K (.ref f19) = true)
    (z_abs : PySem.W.nsIn K mainGlobals "abs" = some none)
    (z_bool : PySem.W.nsIn K mainGlobals "bool" = some none)
    (z_enumerate : PySem.W.nsIn K mainGlobals "enumerate" = some none)
    (z_int : PySem.W.nsIn K mainGlobals "int" = some none)
    (z_isinstance : PySem.W.nsIn K mainGlobals "isinstance" = some none)
    (z_len : PySem.W.nsIn K mainGlobals "len" = some none)
    (z_list : PySem.W.nsIn K mainGlobals "list" = some none)
    (z_range : PySem.W.nsIn K mainGlobals "range" = some none)
    (z_set : PySem.W.nsIn K mainGlobals "set" = some none)
    (z_sorted : PySem.W.nsIn K mainGlobals "sorted" = some none)
    (z_sum : PySem.W.nsIn K mainGlobals "sum" = some none)
    (z_tuple : PySem.W.nsIn K mainGlobals "tuple" = some none)
    (z_zip : PySem.W.nsIn K mainGlobals "zip" = some none)
    {y_MOST : Tok} (q_MOST : PySem.W.nsIn K mainGlobals "MOST" = some (some (.int 6 y_MOST)))
    {y_MOST_COUNT : Tok} (q_MOST_COUNT : PySem.W.nsIn K mainGlobals "MOST_COUNT" = some (some (.int 9 y_MOST_COUNT)))
    : ∃ fd : FuncData, (∀ (s : Shared) (v : Value), BindsTo s fd ⟨[v], []⟩ [("script", v)]) ∧ ∀ base : Heap, K.In base → base.Ns mainGlobals mg → FnOk l.prog w K mg base CX0 5 fa fd ["script"] (spLawD K 63) := by
  have e := hfa.symm.trans (PySem.W.mg_of X G a19)
  cases e
  have T : Txt K mg := {
    f_under := ⟨f0, _, fun_mk (st := s_under) l0 c0 k0, PySem.W.mg_of X G a0, (fun_mk (st := s_under) l0 c0 k0).binds (ps := ["one", "other"]) fun _ _ _ _ _ _ us hl => match us, hl with | [_, _], _ => rfl⟩
    f_table_of := ⟨f1, _, fun_mk (st := s_table_of) l1 c1 k1, PySem.W.mg_of X G a1, (fun_mk (st := s_table_of) l1 c1 k1).binds (ps := ["counts", "orders"]) fun _ _ _ _ _ _ us hl => match us, hl with | [_, _], _ => rfl⟩
    f_full_order := ⟨f2, _, fun_mk (st := s_full_order) l2 c2 k2, PySem.W.mg_of X G a2, (fun_mk (st := s_full_order) l2 c2 k2).binds (ps := ["table", "asker"]) fun _ _ _ _ _ _ us hl => match us, hl with | [_, _], _ => rfl⟩
    f_wishes_in := ⟨f3, _, fun_mk (st := s_wishes_in) l3 c3 k3, PySem.W.mg_of X G a3, (fun_mk (st := s_wishes_in) l3 c3 k3).binds (ps := ["table", "shares"]) fun _ _ _ _ _ _ us hl => match us, hl with | [_, _], _ => rfl⟩
    f_over_pairs := ⟨f4, _, fun_mk (st := s_over_pairs) l4 c4 k4, PySem.W.mg_of X G a4, (fun_mk (st := s_over_pairs) l4 c4 k4).binds (ps := ["table", "shares"]) fun _ _ _ _ _ _ us hl => match us, hl with | [_, _], _ => rfl⟩
    f_law_cell_at := ⟨f5, _, fun_mk (st := s_law_cell_at) l5 c5 k5, PySem.W.mg_of X G a5, (fun_mk (st := s_law_cell_at) l5 c5 k5).binds (ps := ["script", "k"]) fun _ _ _ _ _ _ us hl => match us, hl with | [_, _], _ => rfl⟩
    f_law_stream := ⟨f6, _, fun_mk (st := s_law_stream) l6 c6 k6, PySem.W.mg_of X G a6, (fun_mk (st := s_law_stream) l6 c6 k6).binds (ps := ["cell", "many"]) fun _ _ _ _ _ _ us hl => match us, hl with | [_, _], _ => rfl⟩
    f_law_order := ⟨f7, _, fun_mk (st := s_law_order) l7 c7 k7, PySem.W.mg_of X G a7, (fun_mk (st := s_law_order) l7 c7 k7).binds (ps := ["cell", "many"]) fun _ _ _ _ _ _ us hl => match us, hl with | [_, _], _ => rfl⟩
    f_law_orders := ⟨f8, _, fun_mk (st := s_law_orders) l8 c8 k8, PySem.W.mg_of X G a8, (fun_mk (st := s_law_orders) l8 c8 k8).binds (ps := ["cells", "many"]) fun _ _ _ _ _ _ us hl => match us, hl with | [_, _], _ => rfl⟩
    f_law_counts := ⟨f9, _, fun_mk (st := s_law_counts) l9 c9 k9, PySem.W.mg_of X G a9, (fun_mk (st := s_law_counts) l9 c9 k9).binds (ps := ["cell", "many"]) fun _ _ _ _ _ _ us hl => match us, hl with | [_, _], _ => rfl⟩
    f_law_divisor := ⟨f10, _, fun_mk (st := s_law_divisor) l10 c10 k10, PySem.W.mg_of X G a10, (fun_mk (st := s_law_divisor) l10 c10 k10).binds (ps := ["one", "other"]) fun _ _ _ _ _ _ us hl => match us, hl with | [_, _], _ => rfl⟩
    f_law_lowest := ⟨f11, _, fun_mk (st := s_law_lowest) l11 c11 k11, PySem.W.mg_of X G a11, (fun_mk (st := s_law_lowest) l11 c11 k11).binds (ps := ["top", "bottom"]) fun _ _ _ _ _ _ us hl => match us, hl with | [_, _], _ => rfl⟩
    f_law_turn_deal := ⟨f12, _, fun_mk (st := s_law_turn_deal) l12 c12 k12, PySem.W.mg_of X G a12, (fun_mk (st := s_law_turn_deal) l12 c12 k12).binds (ps := ["cell", "counts", "orders"]) fun _ _ _ _ _ _ us hl => match us, hl with | [_, _, _], _ => rfl⟩
    f_law_any_deal := ⟨f13, _, fun_mk (st := s_law_any_deal) l13 c13 k13, PySem.W.mg_of X G a13, (fun_mk (st := s_law_any_deal) l13 c13 k13).binds (ps := ["cell", "counts", "askers"]) fun _ _ _ _ _ _ us hl => match us, hl with | [_, _, _], _ => rfl⟩
    f_law_drawn := ⟨f14, _, fun_mk (st := s_law_drawn) l14 c14 k14, PySem.W.mg_of X G a14, (fun_mk (st := s_law_drawn) l14 c14 k14).binds (ps := ["cells", "counts", "orders"]) fun _ _ _ _ _ _ us hl => match us, hl with | [_, _, _], _ => rfl⟩
    f_law_tabled := ⟨f15, _, fun_mk (st := s_law_tabled) l15 c15 k15, PySem.W.mg_of X G a15, (fun_mk (st := s_law_tabled) l15 c15 k15).binds (ps := ["script"]) fun _ _ _ _ _ _ us hl => match us, hl with | [_], _ => rfl⟩
    f_law_place := ⟨f16, _, fun_mk (st := s_law_place) l16 c16 k16, PySem.W.mg_of X G a16, (fun_mk (st := s_law_place) l16 c16 k16).binds (ps := ["order", "many", "one"]) fun _ _ _ _ _ _ us hl => match us, hl with | [_, _, _], _ => rfl⟩
    f_law_due := ⟨f17, _, fun_mk (st := s_law_due) l17 c17 k17, PySem.W.mg_of X G a17, (fun_mk (st := s_law_due) l17 c17 k17).binds (ps := ["many", "orders", "shares"]) fun _ _ _ _ _ _ us hl => match us, hl with | [_, _, _], _ => rfl⟩
    f_law_told := ⟨f18, _, fun_mk (st := s_law_told) l18 c18 k18, PySem.W.mg_of X G a18, (fun_mk (st := s_law_told) l18 c18 k18).binds (ps := ["found", "due"]) fun _ _ _ _ _ _ us hl => match us, hl with | [_, _], _ => rfl⟩
    f_law := ⟨fa, _, fun_mk (st := s_law) l19 c19 k19, PySem.W.mg_of X G a19, (fun_mk (st := s_law) l19 c19 k19).binds (ps := ["script"]) fun _ _ _ _ _ _ us hl => match us, hl with | [_], _ => rfl⟩
    m_abs := PySem.W.mg_none_of X G z_abs
    m_bool := PySem.W.mg_none_of X G z_bool
    m_enumerate := PySem.W.mg_none_of X G z_enumerate
    m_int := PySem.W.mg_none_of X G z_int
    m_isinstance := PySem.W.mg_none_of X G z_isinstance
    m_len := PySem.W.mg_none_of X G z_len
    m_list := PySem.W.mg_none_of X G z_list
    m_range := PySem.W.mg_none_of X G z_range
    m_set := PySem.W.mg_none_of X G z_set
    m_sorted := PySem.W.mg_none_of X G z_sorted
    m_sum := PySem.W.mg_none_of X G z_sum
    m_tuple := PySem.W.mg_none_of X G z_tuple
    m_zip := PySem.W.mg_none_of X G z_zip
    c_MOST := ⟨_, PySem.W.mg_of X G q_MOST⟩
    c_MOST_COUNT := ⟨_, PySem.W.mg_of X G q_MOST_COUNT⟩
  }
  exact ⟨PySem.W.fnOf "law" "law" (defArgs s_law) (defBody s_law) (defScope s_law) .none kV19 dc19 pm19 an19 cd19 ct19, fun s v => .of_eq rfl, fun base _ _ => ok_law T (fun_mk (st := s_law) l19 c19 k19)⟩
end K22
open PySem PySem.W PyProof.Rows
set_option maxHeartbeats 0 in
theorem PySem.Challenge.cw_lotmeal_k22_which_are_over_holds : PySem.Challenge.rw_lotmeal_k22_which_are_over.Holds := by
  w_on; o_law; k_head; (case hw => w_witness2)
  k_fill
  refine L2.walk_of (l := PySem.Challenge.rw_lotmeal_k22_which_are_over) (n := 63) (k := 5) (x := "script") (CX := fun _ => L2.CX0) (sp := fun w => DL.spLawD _ 63) rfl (by decide) rfl ⟨rfl, by decide, by decide⟩ (fun w h Y => PySem.W.kIn_of Y) ?F (fun _ _ a ns hl _ hS => ⟨a, ns, rfl, hS, hl, fun _ => rfl⟩) (fun _ _ _ _ _ h => h)
  case F =>
    intro w mg fa h KX G hmg
    refine' K22.all_mk KX G hmg ?a0 ?l0 ?c0 ?k0 ?a1 ?l1 ?c1 ?k1 ?a2 ?l2 ?c2 ?k2 ?a3 ?l3 ?c3 ?k3 ?a4 ?l4 ?c4 ?k4 ?a5 ?l5 ?c5 ?k5 ?a6 ?l6 ?c6 ?k6 ?a7 ?l7 ?c7 ?k7 ?a8 ?l8 ?c8 ?k8 ?a9 ?l9 ?c9 ?k9 ?a10 ?l10 ?c10 ?k10 ?a11 ?l11 ?c11 ?k11 ?a12 ?l12 ?c12 ?k12 ?a13 ?l13 ?c13 ?k13 ?a14 ?l14 ?c14 ?k14 ?a15 ?l15 ?c15 ?k15 ?a16 ?l16 ?c16 ?k16 ?a17 ?l17 ?c17 ?k17 ?a18 ?l18 ?c18 ?k18 ?a19 ?l19 ?c19 ?k19 ?z_abs ?z_bool ?z_enumerate ?z_int ?z_isinstance ?z_len ?z_list ?z_range ?z_set ?z_sorted ?z_sum ?z_tuple ?z_zip ?q_MOST ?q_MOST_COUNT
    (case a0 => k_is)
    (case l0 => k_is)
    (case c0 => k_is)
    (case k0 => k_is)
    (case a1 => k_is)
    (case l1 => k_is)
    (case c1 => k_is)
    (case k1 => k_is)
    (case a2 => k_is)
    (case l2 => k_is)
    (case c2 => k_is)
    (case k2 => k_is)
    (case a3 => k_is)
    (case l3 => k_is)
    (case c3 => k_is)
    (case k3 => k_is)
    (case a4 => k_is)
    (case l4 => k_is)
    (case c4 => k_is)
    (case k4 => k_is)
    (case a5 => k_is)
    (case l5 => k_is)
    (case c5 => k_is)
    (case k5 => k_is)
    (case a6 => k_is)
    (case l6 => k_is)
    (case c6 => k_is)
    (case k6 => k_is)
    (case a7 => k_is)
    (case l7 => k_is)
    (case c7 => k_is)
    (case k7 => k_is)
    (case a8 => k_is)
    (case l8 => k_is)
    (case c8 => k_is)
    (case k8 => k_is)
    (case a9 => k_is)
    (case l9 => k_is)
    (case c9 => k_is)
    (case k9 => k_is)
    (case a10 => k_is)
    (case l10 => k_is)
    (case c10 => k_is)
    (case k10 => k_is)
    (case a11 => k_is)
    (case l11 => k_is)
    (case c11 => k_is)
    (case k11 => k_is)
    (case a12 => k_is)
    (case l12 => k_is)
    (case c12 => k_is)
    (case k12 => k_is)
    (case a13 => k_is)
    (case l13 => k_is)
    (case c13 => k_is)
    (case k13 => k_is)
    (case a14 => k_is)
    (case l14 => k_is)
    (case c14 => k_is)
    (case k14 => k_is)
    (case a15 => k_is)
    (case l15 => k_is)
    (case c15 => k_is)
    (case k15 => k_is)
    (case a16 => k_is)
    (case l16 => k_is)
    (case c16 => k_is)
    (case k16 => k_is)
    (case a17 => k_is)
    (case l17 => k_is)
    (case c17 => k_is)
    (case k17 => k_is)
    (case a18 => k_is)
    (case l18 => k_is)
    (case c18 => k_is)
    (case k18 => k_is)
    (case a19 => k_is)
    (case l19 => k_is)
    (case c19 => k_is)
    (case k19 => k_is)
    (case z_abs => k_is)
    (case z_bool => k_is)
    (case z_enumerate => k_is)
    (case z_int => k_is)
    (case z_isinstance => k_is)
    (case z_len => k_is)
    (case z_list => k_is)
    (case z_range => k_is)
    (case z_set => k_is)
    (case z_sorted => k_is)
    (case z_sum => k_is)
    (case z_tuple => k_is)
    (case z_zip => k_is)
    (case q_MOST => k_is)
    (case q_MOST_COUNT => k_is)
