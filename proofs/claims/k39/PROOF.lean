import PyProof.Rows.All
import Wide.All
import OpenK.AllK
import Wide.FinOn
import HandS.ForMost
import HandS.Wide
import HandS.TupAny
import HandS.TupMul
import HandS.Style
import HandS.Zip
import HandS.IsInst
import HandS.SortInts
import HandS.Flow
import HandS.WordsDict
import HandS.More
import HandS.Conv
import HandS.WordsExc
import HandS.TryOnly
import HandS.ExcOwn
import PyProof.ExcBaseAll.ValueError
import HandS.SetFor
import HandS.StrMore
import PyProof.Rows.StrStep
import KE.DataEq
import HandS.ReplaceLit
import HandS.HotCalls
import HandS.ExcIs
import PySem.Challenge.RW_primechoices_k39_whole_papers_and_refusa
set_option Elab.async false
set_option linter.all false
set_option maxRecDepth 100000
set_option maxHeartbeats 4000000
set_option maxHeartbeats 4000000
namespace PL
open PySem PySem.Spec PyProof.Rows L2

/-! ### data, heaps -/
def Le (H H' : Hp) : Prop := ∀ a o, H a = some o → H' a = some o
theorem Le.refl (H : Hp) : Le H H := fun _ _ h => h
theorem Le.trans {H H1 H2 : Hp} (a : Le H H1) (b : Le H1 H2) : Le H H2 := fun x o h => b x o (a x o h)
theorem Le.fre {R H : Hp} (e : Le R H) {a : Addr} (h : H a = none) : R a = none := by
  cases q : R a with
  | none => rfl
  | some o => rw [e a o q] at h; cases h
theorem Le.upd {R : Hp} {p : Addr} {o : HO} (h : R p = none) : Le R (upd R p o) := fun a u e => by
  rw [upd_ne (ne_of_none e h)]; exact e
theorem Le.upd2 {R H : Hp} {p : Addr} {o : HO} (e : Le R H) : Le (L2.upd R p o) (L2.upd H p o) := fun a u q => by
  by_cases hb : a = p
  · subst hb; rw [upd_same] at q ⊢; exact q
  · rw [upd_ne hb] at q ⊢; exact e a u q
theorem Le.muts {R H : Hp} {p : Addr} {o : HO} (e : Le R H) (h : R p = none) : Le R (L2.upd H p o) := fun a u q => by
  rw [upd_ne (ne_of_none q h)]; exact e a u q

theorem le_rd {R H : Hp} {a : Addr} {u : HO} (e : Le R H) (h : Rd R a u) : Rd H a u := by
  rcases h with h | ⟨o, h⟩
  · exact .inl (e a _ h)
  · exact .inr ⟨o, e a _ h⟩
theorem le_t {K : PySem.W.Frag} {R H : Hp} {a : Addr} {xs : List V} (e : Le R H) (h : SqT K R a xs) : SqT K H a xs := by
  rcases h with h | h
  · exact .inl (le_rd e h)
  · exact .inr h
theorem le_l {K : PySem.W.Frag} {R H : Hp} {a : Addr} {xs : List V} (e : Le R H) (h : SqL K R a xs) : SqL K H a xs := by
  rcases h with h | h
  · exact .inl (le_rd e h)
  · exact .inr h

mutual
inductive Rp (K : PySem.W.Frag) (R : Hp) : V → PyData → Prop
  | non : Rp K R .non .none
  | bl (b : Bool) : Rp K R (.bl b) (.bool b)
  | int (i : Int) : Rp K R (.int i) (.int i)
  | str (x : Str) : Rp K R (.str x) (.str x)
  | lst {a : Addr} {xs : List V} {ds : List PyData} : R a = some (.lst xs) → RpA K R xs ds → Rp K R (.ref a) (.list ds)
  | tup {a : Addr} {xs : List V} {ds : List PyData} : SqT K R a xs → RpA K R xs ds → Rp K R (.ref a) (.tuple ds)
  | ptu {a : Addr} {o : Obj} {ns : List Int} : R a = some (.frz o (.tup (ns.map V.int))) → o.dict = none → Rp K R (.ref a) (.dict [(.tuple (ns.map PyData.int), .none)])
  | rf {a : Addr} : Rp K R (.ref a) (.dict [(.int (a : Int), .none)])
inductive RpA (K : PySem.W.Frag) (R : Hp) : List V → List PyData → Prop
  | nil : RpA K R [] []
  | cons {v : V} {vs : List V} {d : PyData} {ds : List PyData} : Rp K R v d → RpA K R vs ds → RpA K R (v :: vs) (d :: ds)
end
section
variable {K : PySem.W.Frag} {R R' H : Hp}
mutual
theorem Rp.le (e : Le R R') : ∀ {d : PyData} {v : V}, Rp K R v d → Rp K R' v d
  | .none, _, h => by cases h; exact .non
  | .bool b, _, h => by cases h; exact .bl b
  | .int i, _, h => by cases h; exact .int i
  | .str x, _, h => by cases h; exact .str x
  | .list ds, _, h => by
    cases h with
    | lst q r => exact .lst (e _ _ q) (RpA.le e r)
  | .tuple ds, _, h => by
    cases h with
    | tup q r => exact .tup (le_t e q) (RpA.le e r)
  | .dict _, _, h => by
    cases h with
    | ptu q r => exact .ptu (e _ _ q) r
    | rf => exact .rf
theorem RpA.le (e : Le R R') : ∀ {ds : List PyData} {vs : List V}, RpA K R vs ds → RpA K R' vs ds
  | [], _, h => by cases h; exact .nil
  | d :: ds, _, h => by
    cases h with
    | cons a b => exact .cons (Rp.le e a) (RpA.le e b)
end
mutual
theorem Rp.dp (e : Le R H) : ∀ {d : PyData} {v : V}, PyData.canLay0 d = true → Rp K R v d → Dp K H v d
  | .none, _, _, h => by cases h; exact .non
  | .bool b, _, _, h => by cases h; exact .bl b
  | .int i, _, _, h => by cases h; exact .int i
  | .str x, _, _, h => by cases h; exact .str x
  | .list ds, _, n, h => by
    cases h with
    | lst q r => exact .lst (SqL.of (e _ _ q)) (RpA.dp e (show PyData.canLayAll0 ds = true from n) r)
  | .tuple ds, _, n, h => by
    cases h with
    | tup q r => exact .tup (le_t e q) (RpA.dp e (show PyData.canLayAll0 ds = true from n) r)
  | .dict _, _, n, h => by
    cases h with
    | ptu q r => cases n
    | rf => cases n
theorem RpA.dp (e : Le R H) : ∀ {ds : List PyData} {vs : List V}, PyData.canLayAll0 ds = true → RpA K R vs ds → DpAll K H vs ds
  | [], _, _, h => by cases h; exact .nil
  | d :: ds, _, n, h => by
    have n' : (PyData.canLay0 d && PyData.canLayAll0 ds) = true := n
    rw [Bool.and_eq_true] at n'
    cases h with
    | cons a b => exact .cons (Rp.dp e n'.1 a) (RpA.dp e n'.2 b)
end
theorem shaped_lay {d : PyData} (h : SeqAt.shaped d = true) : PyData.canLay0 d = true := by
  unfold SeqAt.shaped at h
  rw [Bool.and_eq_true] at h
  exact h.1
theorem RpA.length : ∀ {ds : List PyData} {vs : List V}, RpA K R vs ds → vs.length = ds.length
  | [], _, h => by cases h; rfl
  | d :: ds, _, h => by
    cases h with
    | cons a b => rw [List.length_cons, List.length_cons, RpA.length b]
theorem RpA.get : ∀ {ds : List PyData} {vs : List V} {i : Nat} {d : PyData}, RpA K R vs ds → ds[i]? = some d → ∃ v, vs[i]? = some v ∧ Rp K R v d
  | [], _, _, _, _, e => by simp at e
  | d :: ds, _, 0, x, h, e => by
    cases h with
    | cons a b =>
      have e' : d = x := Option.some.inj e
      subst e'
      exact ⟨_, rfl, a⟩
  | d :: ds, _, i + 1, x, h, e => by
    cases h with
    | cons a b => exact RpA.get (i := i) b e
theorem RpA.getV : ∀ {ds : List PyData} {vs : List V} {i : Nat} {v : V}, RpA K R vs ds → vs[i]? = some v → ∃ d, ds[i]? = some d ∧ Rp K R v d
  | [], _, _, _, h, e => by cases h; simp at e
  | d :: ds, _, 0, x, h, e => by
    cases h with
    | cons a b =>
      have e' := Option.some.inj e
      subst e'
      exact ⟨_, rfl, a⟩
  | d :: ds, _, i + 1, x, h, e => by
    cases h with
    | cons a b => exact RpA.getV (i := i) b e
theorem RpA.append : ∀ {ds es : List PyData} {vs us : List V}, RpA K R vs ds → RpA K R us es → RpA K R (vs ++ us) (ds ++ es)
  | [], _, _, _, h, g => by cases h; exact g
  | d :: ds, _, _, _, h, g => by
    cases h with
    | cons a b => exact .cons a (RpA.append b g)
theorem RpA.take : ∀ {ds : List PyData} {vs : List V} (n : Nat), RpA K R vs ds → RpA K R (vs.take n) (ds.take n)
  | [], _, n, h => by cases h; simp only [List.take_nil]; exact .nil
  | d :: ds, _, 0, h => .nil
  | d :: ds, _, n + 1, h => by
    cases h with
    | cons a b => exact .cons a (RpA.take n b)
theorem RpA.drop : ∀ {ds : List PyData} {vs : List V} (n : Nat), RpA K R vs ds → RpA K R (vs.drop n) (ds.drop n)
  | [], _, n, h => by cases h; simp only [List.drop_nil]; exact .nil
  | d :: ds, _, 0, h => h
  | d :: ds, _, n + 1, h => by
    cases h with
    | cons a b => exact RpA.drop n b
theorem RpA.reverse : ∀ {ds : List PyData} {vs : List V}, RpA K R vs ds → RpA K R vs.reverse ds.reverse
  | [], _, h => by cases h; exact .nil
  | d :: ds, _, h => by
    cases h with
    | cons a b =>
      rw [List.reverse_cons, List.reverse_cons]
      exact RpA.append (RpA.reverse b) (.cons a .nil)
theorem RpA.rep {ds : List PyData} {vs : List V} (h : RpA K R vs ds) : ∀ n : Nat, RpA K R (List.replicate n vs).flatten (List.replicate n ds).flatten
  | 0 => .nil
  | n + 1 => by
    rw [List.replicate_succ, List.replicate_succ, List.flatten_cons, List.flatten_cons]
    exact RpA.append h (RpA.rep h n)
theorem RpA.set : ∀ {ds : List PyData} {vs : List V} {v : V} {d : PyData} (n : Nat), RpA K R vs ds → Rp K R v d → RpA K R (vs.set n v) (ds.set n d)
  | [], _, _, _, n, h, _ => by cases h; exact .nil
  | d :: ds, _, _, _, 0, h, q => by
    cases h with
    | cons a b => exact .cons q b
  | d :: ds, _, _, _, n + 1, h, q => by
    cases h with
    | cons a b => exact .cons a (RpA.set n b q)
theorem RpA.ints : ∀ {ns : List Int} {vs : List V}, RpA K R vs (ns.map PyData.int) → vs = ns.map V.int
  | [], _, h => by cases h; rfl
  | n :: ns, _, h => by
    cases h with
    | cons a b => cases a; rw [List.map_cons, RpA.ints b]
theorem rpa_ints : ∀ (ns : List Int), RpA K R (ns.map V.int) (ns.map PyData.int)
  | [] => .nil
  | n :: ns => .cons (.int n) (rpa_ints ns)
theorem RpA.bls : ∀ {ns : List Bool} {vs : List V}, RpA K R vs (ns.map PyData.bool) → vs = ns.map V.bl
  | [], _, h => by cases h; rfl
  | n :: ns, _, h => by
    cases h with
    | cons a b => cases a; rw [List.map_cons, RpA.bls b]
theorem RpA.strs : ∀ {ns : List Str} {vs : List V}, RpA K R vs (ns.map PyData.str) → vs = ns.map V.str
  | [], _, h => by cases h; rfl
  | n :: ns, _, h => by
    cases h with
    | cons a b => cases a; rw [List.map_cons, RpA.strs b]
end

/-! ### no list within -/
mutual
def noL : PyData → Bool
  | .list _ => false
  | .tuple ds => noLs ds
  | .dict _ => false
  | _ => true
def noLs : List PyData → Bool
  | [] => true
  | d :: ds => noL d && noLs ds
end
theorem noLs_ints : ∀ ns : List Int, noLs (ns.map PyData.int) = true
  | [] => rfl
  | n :: ns => by rw [List.map_cons]; exact noLs_ints ns
theorem noLs_of : ∀ {ds : List PyData}, (∀ d ∈ ds, noL d = true) → noLs ds = true
  | [], _ => rfl
  | d :: ds, h => by
    show (noL d && noLs ds) = true
    rw [h d List.mem_cons_self, noLs_of fun x hx => h x (List.mem_cons_of_mem _ hx)]; rfl
theorem noLs_mem : ∀ {ds : List PyData}, noLs ds = true → ∀ d ∈ ds, noL d = true
  | [], _, _, h => by cases h
  | d :: ds, h, x, hx => by
    have h' : (noL d && noLs ds) = true := h
    rw [Bool.and_eq_true] at h'
    rcases List.mem_cons.mp hx with e | e
    · rw [e]; exact h'.1
    · exact noLs_mem h'.2 x e
section
variable {K : PySem.W.Frag} {R R' : Hp}
def NotLst (R R' : Hp) : Prop := ∀ a o, R a = some o → (∀ xs, o ≠ .lst xs) → R' a = some o
theorem notLst_t {a : Addr} {xs : List V} (e : NotLst R R') (h : SqT K R a xs) : SqT K R' a xs := by
  rcases h with (h | ⟨o, h⟩) | h
  · exact .inl (.inl (e _ _ h fun _ z => nomatch z))
  · exact .inl (.inr ⟨o, e _ _ h fun _ z => nomatch z⟩)
  · exact .inr h
mutual
theorem Rp.nol (e : NotLst R R') : ∀ {d : PyData} {v : V}, noL d = true → Rp K R v d → Rp K R' v d
  | .none, _, _, h => by cases h; exact .non
  | .bool b, _, _, h => by cases h; exact .bl b
  | .int i, _, _, h => by cases h; exact .int i
  | .str x, _, _, h => by cases h; exact .str x
  | .list ds, _, n, h => by cases n
  | .tuple ds, _, n, h => by
    cases h with
    | tup q r => exact .tup (notLst_t e q) (RpA.nol e (show noLs ds = true from n) r)
  | .dict _, _, n, h => by cases n
theorem RpA.nol (e : NotLst R R') : ∀ {ds : List PyData} {vs : List V}, noLs ds = true → RpA K R vs ds → RpA K R' vs ds
  | [], _, _, h => by cases h; exact .nil
  | d :: ds, _, n, h => by
    have n' : (noL d && noLs ds) = true := n
    rw [Bool.and_eq_true] at n'
    cases h with
    | cons a b => exact .cons (Rp.nol e n'.1 a) (RpA.nol e n'.2 b)
end
end

/-! ### states of data -/
inductive Sl where
  | dat (d : PyData)
  | mu (ds : List PyData)
  | town
  | scr (ns : List Int)
abbrev Sls := List (Option Sl)
structure Sta where
  b : Nat
  sl : Sls
def Sl.frz : Sl → Sl
  | .mu ds => .dat (.list ds)
  | s => s
def Sl.drp : Sl → Option Sl
  | .mu _ => none
  | s => some s
def frzS (l : Sls) : Sls := l.map fun o => o.map Sl.frz
def drpS (l : Sls) : Sls := l.map fun o => o.bind Sl.drp
abbrev Sta.frz (S : Sta) : Sta := ⟨S.b, frzS S.sl⟩
abbrev Sta.drp (S : Sta) : Sta := ⟨S.b, drpS S.sl⟩
theorem frzS_get {l : Sls} {i : Nat} {s : Sl} (h : (frzS l)[i]? = some (some s)) : ∃ t : Sl, l[i]? = some (some t) ∧ s = t.frz := by
  unfold frzS at h
  rw [List.getElem?_map] at h
  cases w : l[i]? with
  | none => rw [w] at h; cases h
  | some o =>
    rw [w] at h
    cases o with
    | none => cases h
    | some t => cases h; exact ⟨t, rfl, rfl⟩
theorem drpS_get {l : Sls} {i : Nat} {s : Sl} (h : (drpS l)[i]? = some (some s)) : l[i]? = some (some s) ∧ ∀ ds, s ≠ .mu ds := by
  unfold drpS at h
  rw [List.getElem?_map] at h
  cases w : l[i]? with
  | none => rw [w] at h; cases h
  | some o =>
    rw [w] at h
    cases o with
    | none => cases h
    | some t =>
      cases t with
      | mu ds => cases h
      | dat d => cases h; exact ⟨rfl, fun _ z => nomatch z⟩
      | town => cases h; exact ⟨rfl, fun _ z => nomatch z⟩
      | scr ns => cases h; exact ⟨rfl, fun _ z => nomatch z⟩

section
variable {K : PySem.W.Frag} {T : Option Addr} {R R' R1 R2 H H' H1 H2 : Hp} {σ : L2.St}
def SE (K : PySem.W.Frag) (T : Option Addr) (R : Hp) : Sl → V → Prop
  | .dat d, v => Rp K R v d
  | .town, v => ∃ t, T = some t ∧ v = .ref t
  | .scr ns, v => ∃ a, v = .ref a ∧ SqL K R a (ns.map V.int)
  | .mu _, _ => False
theorem SE.le (e : Le R R') {s : Sl} {v : V} (h : SE K T R s v) : SE K T R' s v := by
  cases s with
  | dat d => exact Rp.le e h
  | mu ds => exact h
  | town => exact h
  | scr ns => obtain ⟨a, e1, q⟩ := h; exact ⟨a, e1, le_l e q⟩
/-- the town's list: it may grow by b -/
def TwE (T : Option Addr) (b : Nat) (R H : Hp) : Prop := ∀ t, T = some t → R t = none ∧ ∃ zs, H t = some (.lst zs) ∧ zs.length + b ≤ sizeLine
structure HE (K : PySem.W.Frag) (T : Option Addr) (S : Sta) (R : Hp) (σ : L2.St) (H : Hp) : Prop where
  le : Le R H
  tw : TwE T S.b R H
  len : S.sl.length ≤ σ.length
  sl : ∀ (i : Nat) (s : Sl), S.sl[i]? = some (some s) → ∃ v, σ[i]? = some (some v) ∧ SE K T R s v
structure Nx (T : Option Addr) (R H R' H' : Hp) : Prop where
  lx : ∀ a o, T ≠ some a → H a = some o → H' a = some o
  lr : Le R R'
  av : ∀ a, T ≠ some a → H a ≠ none → R a = none → R' a = none
theorem Nx.refl : Nx T R H R H := ⟨fun _ _ _ h => h, Le.refl R, fun _ _ _ h => h⟩
theorem Nx.trans (a : Nx T R H R1 H1) (b : Nx T R1 H1 R2 H2) : Nx T R H R2 H2 :=
  ⟨fun x o n h => b.lx x o n (a.lx x o n h), a.lr.trans b.lr, fun x n h r => by
    refine b.av x n (fun z => ?_) (a.av x n h r)
    cases q : H x with
    | none => exact h q
    | some o => rw [a.lx x o n q] at z; cases z⟩
theorem Nx.weak (a : Nx none R H R' H') : Nx T R H R' H' := ⟨fun x o _ h => a.lx x o (fun z => nomatch z) h, a.lr, fun x _ h r => a.av x (fun z => nomatch z) h r⟩
theorem Nx.laid {p : Addr} {o : HO} (h : H p = none) : Nx T R H R (upd H p o) := ⟨fun a u _ e => by rw [upd_ne (ne_of_none e h)]; exact e, Le.refl R, fun _ _ _ r => r⟩
theorem Nx.laid2 {p : Addr} {o : HO} (e : Le R H) (h : H p = none) : Nx T R H (upd R p o) (upd H p o) :=
  ⟨fun a u _ e => by rw [upd_ne (ne_of_none e h)]; exact e, Le.upd (e.fre h), fun a _ q r => by
    rw [upd_ne fun z => q (by rw [z]; exact h)]; exact r⟩
theorem HE.mono {S : Sta} (h : HE K T S R σ H) (n : Nx T R H R' H') (le : Le R' H') {b : Nat} (tw : TwE T b R' H') : HE K T ⟨b, S.sl⟩ R' σ H' :=
  ⟨le, tw, h.len, fun i s e => let ⟨v, e1, q⟩ := h.sl i s e; ⟨v, e1, q.le n.lr⟩⟩
theorem TwE.laid {b : Nat} {p : Addr} {o : HO} (h : TwE T b R H) (hp : H p = none) : TwE T b R (upd H p o) := fun t e => by
  obtain ⟨r, zs, q, z⟩ := h t e
  exact ⟨r, zs, by rw [upd_ne (ne_of_none q hp)]; exact q, z⟩
theorem TwE.laid2 {b : Nat} {p : Addr} {o : HO} (h : TwE T b R H) (hp : H p = none) : TwE T b (upd R p o) (upd H p o) := fun t e => by
  obtain ⟨r, zs, q, z⟩ := h t e
  exact ⟨by rw [upd_ne (ne_of_none q hp)]; exact r, zs, by rw [upd_ne (ne_of_none q hp)]; exact q, z⟩
theorem TwE.of {b : Nat} (h : TwE T b R H) (n : Nx none R H R' H') : TwE T b R' H' := fun t e => by
  obtain ⟨r, zs, q, z⟩ := h t e
  exact ⟨n.av t (fun z => nomatch z) (by rw [q]; exact fun z => nomatch z) r, zs, n.lx t _ (fun z => nomatch z) q, z⟩
theorem HE.laid {S : Sta} {p : Addr} {o : HO} (h : HE K T S R σ H) (hp : H p = none) : HE K T S R σ (upd H p o) :=
  h.mono (Nx.laid hp) (h.le.muts (h.le.fre hp)) (h.tw.laid hp)
theorem HE.laid2 {S : Sta} {p : Addr} {o : HO} (h : HE K T S R σ H) (hp : H p = none) : HE K T S (upd R p o) σ (upd H p o) :=
  h.mono (Nx.laid2 h.le hp) h.le.upd2 (h.tw.laid2 hp)
theorem HE.notT {S : Sta} {p : Addr} (h : HE K T S R σ H) (hp : H p = none) : T ≠ some p := fun e => by
  obtain ⟨_, zs, q, _⟩ := h.tw p e
  rw [hp] at q; cases q
end

/-! ### what evaluates to what -/
section
variable (X : Cx) (T : Option Addr)
def wpE (e : Expr) : TE := fun σ H Q => ∀ pins s, Inv X pins σ H s → wpAny (model X.prog X.w) X.A (eval e X.env) (EP X pins σ Q) X.xe s
def wpT (e : Expr) : TT := fun σ H Q => ∀ pins s, Inv X pins σ H s → wpAny (model X.prog X.w) X.A (isTrue e X.env (eval e X.env)) (TP X pins σ Q) X.xe s
def wpW (e : Expr) : TT := fun σ H Q => ∀ (whole : Sem Value) pins s, Inv X pins σ H s → wpAny (model X.prog X.w) X.A (isTrue e X.env whole) (TP X pins σ Q) X.xe s
def wpA (es : List Expr) : TA := fun σ H Q => ∀ (pos : Pos) pins s, Inv X pins σ H s → wpAny (model X.prog X.w) X.A (spliced (backTo pos (starEach es X.env))) (AP X pins σ Q) X.xe s
def wpSs (st : List Stmt) : TS := fun D σ H => ∀ pins s, Inv X pins σ H s → wpAny (model X.prog X.w) X.A (execs st X.env) (SP X pins D) X.xe s
def wpS (st : Stmt) : TS := fun D σ H => ∀ pins s, Inv X pins σ H s → wpAny (model X.prog X.w) X.A (exec st X.env) (SP X pins D) X.xe s
variable {X}
theorem pe_wp {e : Expr} : PE X e (wpE X e) := ⟨fun pins s _ _ _ I h => h pins s I⟩
theorem pt_wp {e : Expr} : PT X e (wpT X e) := ⟨fun pins s _ _ _ I h => h pins s I⟩
theorem pw_wp {e : Expr} : PW X e (wpW X e) := ⟨fun whole pins s _ _ _ I h => h whole pins s I⟩
theorem pa_wp {es : List Expr} : PA X es (wpA X es) := ⟨fun pos pins s _ _ _ I h => h pos pins s I⟩
theorem pss_wp {st : List Stmt} : PSs X st (wpSs X st) := ⟨fun pins s _ _ _ I h => h pins s I⟩
theorem ps_wp {st : Stmt} : PS X st (wpS X st) := ⟨fun pins s _ _ _ I h => h pins s I⟩
theorem wpE_of {e : Expr} {t : TE} (h : PE X e t) {σ H Q} (q : t σ H Q) : wpE X e σ H Q := fun pins s I => h.run pins s σ H Q I q
theorem wpT_of {e : Expr} {t : TT} (h : PT X e t) {σ H Q} (q : t σ H Q) : wpT X e σ H Q := fun pins s I => h.run pins s σ H Q I q
theorem wpW_of {e : Expr} {t : TT} (h : PW X e t) {σ H Q} (q : t σ H Q) : wpW X e σ H Q := fun wh pins s I => h.run wh pins s σ H Q I q
theorem wpA_of {es : List Expr} {t : TA} (h : PA X es t) {σ H Q} (q : t σ H Q) : wpA X es σ H Q := fun pos pins s I => h.run pos pins s σ H Q I q
theorem wpS_of {st : Stmt} {t : TS} (h : PS X st t) {D σ H} (q : t D σ H) : wpS X st D σ H := fun pins s I => h.run pins s σ H D I q
theorem wpSs_of {st : List Stmt} {t : TS} (h : PSs X st t) {D σ H} (q : t D σ H) : wpSs X st D σ H := fun pins s I => h.run pins s σ H D I q
variable (X)
def Ev (e : Expr) (S : Sta) (κ : PyData → Nat → Prop) : Prop := ∀ (R : Hp) (σ : L2.St) (H : Hp), HE X.K T S R σ H → ∀ Q : VK,
  (∀ (R' : Hp) (v : V) (H' : Hp) (d : PyData) (b : Nat), κ d b → HE X.K T ⟨b, S.sl⟩ R' σ H' → Nx T R H R' H' → Rp X.K R' v d → Q v H') → wpE X e σ H Q
def EvP (e : Expr) (S : Sta) (d : PyData) : Prop := Ev X T e S fun d' b => d' = d ∧ b = S.b
/-- a new list -/
def EvN (e : Expr) (S : Sta) (κ : List PyData → Nat → Prop) : Prop := ∀ (R : Hp) (σ : L2.St) (H : Hp), HE X.K T S R σ H → ∀ Q : VK,
  (∀ (R' : Hp) (p : Addr) (xs : List V) (H' : Hp) (ds : List PyData) (b : Nat), κ ds b → HE X.K T ⟨b, S.sl⟩ R' σ H' → Nx T R H R' H' → H p = none → T ≠ some p → R' p = none → H' p = some (.lst xs) → RpA X.K R' xs ds → Q (.ref p) H') → wpE X e σ H Q
def EvNP (e : Expr) (S : Sta) (ds : List PyData) : Prop := EvN X T e S fun ds' b => ds' = ds ∧ b = S.b
def EvT (e : Expr) (S : Sta) (c : Bool) : Prop := ∀ (R : Hp) (σ : L2.St) (H : Hp), HE X.K T S R σ H → ∀ Q : Bool → Hp → Prop,
  (∀ (R' H' : Hp), HE X.K T S R' σ H' → Nx T R H R' H' → Q c H') → wpT X e σ H Q
def EvW (e : Expr) (S : Sta) (c : Bool) : Prop := ∀ (R : Hp) (σ : L2.St) (H : Hp), HE X.K T S R σ H → ∀ Q : Bool → Hp → Prop,
  (∀ (R' H' : Hp), HE X.K T S R' σ H' → Nx T R H R' H' → Q c H') → wpW X e σ H Q
def EvA (es : List Expr) (S : Sta) (κ : List PyData → Nat → Prop) : Prop := ∀ (R : Hp) (σ : L2.St) (H : Hp), HE X.K T S R σ H → ∀ Q : List V → Hp → Prop,
  (∀ (R' : Hp) (vs : List V) (H' : Hp) (ds : List PyData) (b : Nat), κ ds b → HE X.K T ⟨b, S.sl⟩ R' σ H' → Nx T R H R' H' → RpA X.K R' vs ds → Q vs H') → wpA X es σ H Q
def EvAP (es : List Expr) (S : Sta) (ds : List PyData) : Prop := EvA X T es S fun ds' b => ds' = ds ∧ b = S.b
/-- arguments, the town and the script among them -/
def EvB (es : List Expr) (S : Sta) (κ : List Sl → Nat → Prop) : Prop := ∀ (R : Hp) (σ : L2.St) (H : Hp), HE X.K T S R σ H → ∀ Q : List V → Hp → Prop,
  (∀ (R' : Hp) (vs : List V) (H' : Hp) (ss : List Sl) (b : Nat), κ ss b → HE X.K T ⟨b, S.sl⟩ R' σ H' → Nx T R H R' H' → Paired (SE X.K T R') ss vs → Q vs H') → wpA X es σ H Q
end

section
variable {X : Cx} {T : Option Addr} {S : Sta} {e a b : Expr} {pos : Pos} {d x y z : PyData}
theorem Ev.k {κ : PyData → Nat → Prop} (h : EvP X T e S d) (k : κ d S.b) : Ev X T e S κ := fun R σ H I Q q =>
  h R σ H I Q fun R' v H' d' b ⟨e1, e2⟩ I' n r => by subst e1 e2; exact q R' v H' _ _ k I' n r
theorem Ev.imp {κ κ' : PyData → Nat → Prop} (h : Ev X T e S κ) (k : ∀ d b, κ d b → κ' d b) : Ev X T e S κ' := fun R σ H I Q q =>
  h R σ H I Q fun R' v H' d' b c I' n r => q R' v H' d' b (k _ _ c) I' n r
theorem EvP.is (h : EvP X T e S d) {d' : PyData} (e1 : d = d') : EvP X T e S d' := e1 ▸ h
theorem EvT.is {c c' : Bool} (h : EvT X T e S c) (e1 : c = c') : EvT X T e S c' := e1 ▸ h
theorem EvN.imp {κ κ' : List PyData → Nat → Prop} (h : EvN X T e S κ) (k : ∀ d b, κ d b → κ' d b) : EvN X T e S κ' := fun R σ H I Q q =>
  h R σ H I Q fun R' p xs H' ds b c I' n h1 h2 h3 h4 h5 => q R' p xs H' ds b (k _ _ c) I' n h1 h2 h3 h4 h5
theorem EvN.k {κ : List PyData → Nat → Prop} {ds : List PyData} (h : EvNP X T e S ds) (k : κ ds S.b) : EvN X T e S κ := h.imp fun d b ⟨e1, e2⟩ => by subst e1 e2; exact k
theorem EvNP.is {ds ds' : List PyData} (h : EvNP X T e S ds) (e1 : ds = ds') : EvNP X T e S ds' := e1 ▸ h
theorem EvA.imp {es : List Expr} {κ κ' : List PyData → Nat → Prop} (h : EvA X T es S κ) (k : ∀ d b, κ d b → κ' d b) : EvA X T es S κ' := fun R σ H I Q q =>
  h R σ H I Q fun R' v H' d' b c I' n r => q R' v H' d' b (k _ _ c) I' n r
theorem EvA.k {es : List Expr} {κ : List PyData → Nat → Prop} {ds : List PyData} (h : EvAP X T es S ds) (k : κ ds S.b) : EvA X T es S κ := h.imp fun d b ⟨e1, e2⟩ => by subst e1 e2; exact k

/-! names, constants -/
theorem evp_var (i : Nat) {x : Str} (h : S.sl[i]? = some (some (.dat d))) (hN : X.N[i]? = some x := by rfl) (hv : Vis X.env.scope x := by first | exact Or.inl rfl | exact Or.inr (Or.inl rfl) | exact Or.inr (Or.inr rfl))
    (hd : (x == ("__debug__" : Str)) = false := by decide) (hcd : (x == ("__classdict__" : Str)) = false := by decide) : EvP X T (.Name x pos) S d := fun R σ H I Q q => by
  obtain ⟨v, e1, r⟩ := I.sl i _ h
  exact wpE_of (pe_var hN hv hd hcd) ⟨v, e1, q R v H d S.b ⟨rfl, rfl⟩ I Nx.refl r⟩
theorem evp_c {t : V} {e : Expr} (h : PE X e (tC t)) (r : ∀ R, Rp X.K R t d) : EvP X T e S d := fun R σ H I Q q => wpE_of h (q R t H d S.b ⟨rfl, rfl⟩ I Nx.refl (r R))
theorem evp_int {i : Int} {j : Nat} : EvP X T (.Constant (.int i) j pos) S (.int i) := evp_c pe_int fun _ => .int i
theorem evp_bl {b : Bool} {j : Nat} : EvP X T (.Constant (.bool b) j pos) S (.bool b) := evp_c pe_bl fun _ => .bl b
theorem evp_non {j : Nat} : EvP X T (.Constant .none j pos) S .none := evp_c pe_non fun _ => .non
theorem evp_str {x : Str} {j : Nat} : EvP X T (.Constant (.str x) j pos) S (.str x) := evp_c pe_str fun _ => .str x

/-! operators -/
def OpD (X : Cx) (T : Option Addr) (f : Value → Value → Sem Value) (x y z : PyData) : Prop := ∀ (S : Sta) (R : Hp) (σ : L2.St) (H : Hp) (a b : V) (Q : VK), HE X.K T S R σ H → Rp X.K R a x → Rp X.K R b y →
  (∀ R' c H', HE X.K T S R' σ H' → Nx T R H R' H' → Rp X.K R' c z → Q c H') → ∃ r : R2, OpR X f r ∧ r a b H Q
theorem opd_I {f : Value → Value → Sem Value} {C : Int → Int → Prop} {g : Int → Int → Int} {i j : Int} (o : OpR X f (rI C fun i j => .int (g i j))) (c : C i j) : OpD X T f (.int i) (.int j) (.int (g i j)) := fun S R σ H a b Q I ra rb q => by
  cases ra; cases rb
  exact ⟨_, o, i, j, rfl, rfl, c, q R _ H I Nx.refl (.int _)⟩
theorem opd_I0 {f : Value → Value → Sem Value} {g : Int → Int → Int} {i j : Int} (o : OpR X f (rI0 fun i j => .int (g i j))) : OpD X T f (.int i) (.int j) (.int (g i j)) := fun S R σ H a b Q I ra rb q => by
  cases ra; cases rb
  exact ⟨_, o, i, j, rfl, rfl, q R _ H I Nx.refl (.int _)⟩
theorem opd_B0 {f : Value → Value → Sem Value} {g : Int → Int → Bool} {i j : Int} (o : OpR X f (rI0 fun i j => .bl (g i j))) : OpD X T f (.int i) (.int j) (.bool (g i j)) := fun S R σ H a b Q I ra rb q => by
  cases ra; cases rb
  exact ⟨_, o, i, j, rfl, rfl, q R _ H I Nx.refl (.bl _)⟩
theorem opd_add {i j : Int} : OpD X T (binaryOp .Add) (.int i) (.int j) (.int (i + j)) := opd_I0 op_add
theorem opd_sub {i j : Int} : OpD X T (binaryOp .Sub) (.int i) (.int j) (.int (i - j)) := opd_I0 op_sub
theorem opd_mulL {i j : Int} (h : -(2 ^ 64) < i ∧ i < 2 ^ 64) : OpD X T (binaryOp .Mult) (.int i) (.int j) (.int (i * j)) := opd_I op_mul (.inl h)
theorem opd_mulR {i j : Int} (h : -(2 ^ 64) < j ∧ j < 2 ^ 64) : OpD X T (binaryOp .Mult) (.int i) (.int j) (.int (i * j)) := opd_I op_mul (.inr h)
theorem opd_mulW {i j : Int} (h : CMulW i j) : OpD X T (binaryOp .Mult) (.int i) (.int j) (.int (i * j)) := opd_I op_mulW h
theorem opd_mod {i j : Int} (h : 0 < j) : OpD X T (binaryOp .Mod) (.int i) (.int j) (.int (i % j)) := opd_I op_mod h
theorem opd_div {i j : Int} (h : 0 < j ∧ j < 1073741824) : OpD X T (binaryOp .FloorDiv) (.int i) (.int j) (.int (i / j)) := opd_I op_fdiv h
theorem opd_divW {i j : Int} (h : 0 < j ∧ j.natAbs.log2 < 9000) : OpD X T (binaryOp .FloorDiv) (.int i) (.int j) (.int (i / j)) := opd_I op_fdivW h
theorem opd_lt {i j : Int} : OpD X T (compareOp .Lt) (.int i) (.int j) (.bool (decide (i < j))) := opd_B0 op_lt
theorem opd_le {i j : Int} : OpD X T (compareOp .LtE) (.int i) (.int j) (.bool (decide (i ≤ j))) := opd_B0 op_le
theorem opd_gt {i j : Int} : OpD X T (compareOp .Gt) (.int i) (.int j) (.bool (decide (j < i))) := opd_B0 op_gt
theorem opd_ge {i j : Int} : OpD X T (compareOp .GtE) (.int i) (.int j) (.bool (decide (j ≤ i))) := opd_B0 op_ge
theorem dec_congr {p q : Prop} [Decidable p] [Decidable q] (h : p ↔ q) : decide p = decide q := by
  by_cases hp : p
  · rw [decide_eq_true hp, decide_eq_true (h.mp hp)]
  · rw [decide_eq_false hp, decide_eq_false fun z => hp (h.mpr z)]
theorem opd_eqI {i j : Int} : OpD X T (compareOp .Eq) (.int i) (.int j) (.bool (decide (i = j))) := fun S R σ H a b Q I ra rb q => by
  cases ra; cases rb
  refine ⟨_, op_eq, rfl, ?_⟩
  rw [dec_congr (q := i = j) ⟨V.int.inj, fun z => by rw [z]⟩]
  exact q R _ H I Nx.refl (.bl _)
theorem opd_neI {i j : Int} : OpD X T (compareOp .NotEq) (.int i) (.int j) (.bool (!decide (i = j))) := fun S R σ H a b Q I ra rb q => by
  cases ra; cases rb
  refine ⟨_, op_ne, rfl, ?_⟩
  rw [dec_congr (q := i = j) ⟨V.int.inj, fun z => by rw [z]⟩]
  exact q R _ H I Nx.refl (.bl _)
theorem opd_eqS {i j : Str} : OpD X T (compareOp .Eq) (.str i) (.str j) (.bool (decide (i = j))) := fun S R σ H a b Q I ra rb q => by
  cases ra; cases rb
  refine ⟨_, op_eq, rfl, ?_⟩
  rw [dec_congr (q := i = j) ⟨V.str.inj, fun z => by rw [z]⟩]
  exact q R _ H I Nx.refl (.bl _)
theorem opd_neS {i j : Str} : OpD X T (compareOp .NotEq) (.str i) (.str j) (.bool (!decide (i = j))) := fun S R σ H a b Q I ra rb q => by
  cases ra; cases rb
  refine ⟨_, op_ne, rfl, ?_⟩
  rw [dec_congr (q := i = j) ⟨V.str.inj, fun z => by rw [z]⟩]
  exact q R _ H I Nx.refl (.bl _)
theorem opd_eqB {i j : Bool} : OpD X T (compareOp .Eq) (.bool i) (.bool j) (.bool (decide (i = j))) := fun S R σ H a b Q I ra rb q => by
  cases ra; cases rb
  refine ⟨_, op_eq, rfl, ?_⟩
  rw [dec_congr (q := i = j) ⟨V.bl.inj, fun z => by rw [z]⟩]
  exact q R _ H I Nx.refl (.bl _)
theorem opd_neB {i j : Bool} : OpD X T (compareOp .NotEq) (.bool i) (.bool j) (.bool (!decide (i = j))) := fun S R σ H a b Q I ra rb q => by
  cases ra; cases rb
  refine ⟨_, op_ne, rfl, ?_⟩
  rw [dec_congr (q := i = j) ⟨V.bl.inj, fun z => by rw [z]⟩]
  exact q R _ H I Nx.refl (.bl _)
theorem opd_eqD (hu : X.A.units + 64 < cLine) (hx : SeqAt.shaped x = true) (hy : SeqAt.shaped y = true) : OpD X T (compareOp .Eq) x y (.bool (PyData.eqv x y)) := fun S R σ H a b Q I ra rb q =>
  ⟨_, op_eqD hu, x, y, ra.dp I.le (shaped_lay hx), rb.dp I.le (shaped_lay hy), hx, hy, q R _ H I Nx.refl (.bl _)⟩
theorem opd_neD (hu : X.A.units + 64 < cLine) (hx : SeqAt.shaped x = true) (hy : SeqAt.shaped y = true) : OpD X T (compareOp .NotEq) x y (.bool (!PyData.eqv x y)) := fun S R σ H a b Q I ra rb q =>
  ⟨_, op_neD hu, x, y, ra.dp I.le (shaped_lay hx), rb.dp I.le (shaped_lay hy), hx, hy, q R _ H I Nx.refl (.bl _)⟩
def isNone : PyData → Bool
  | .none => true
  | _ => false
theorem rp_isNone {K : PySem.W.Frag} {R : Hp} {v : V} {d : PyData} (r : Rp K R v d) : decide (v = .non) = isNone d := by
  cases r <;> rfl
theorem opd_isN : OpD X T (compareOp .Is) x .none (.bool (isNone x)) := fun S R σ H a b Q I ra rb q => by
  cases rb
  refine ⟨_, op_isN, rfl, ?_⟩
  rw [rp_isNone ra]
  exact q R _ H I Nx.refl (.bl _)
theorem opd_notN : OpD X T (compareOp .IsNot) x .none (.bool (!isNone x)) := fun S R σ H a b Q I ra rb q => by
  cases rb
  refine ⟨_, op_notN, rfl, ?_⟩
  rw [rp_isNone ra]
  exact q R _ H I Nx.refl (.bl _)
theorem opd_addS {i j : Str} (h : i.length + j.length ≤ sizeLine) : OpD X T (binaryOp .Add) (.str i) (.str j) (.str (i ++ j)) := fun S R σ H a b Q I ra rb q => by
  cases ra; cases rb
  exact ⟨_, op_add_str, i, j, rfl, rfl, h, q R _ H I Nx.refl (.str _)⟩
theorem opd_cat {xs ys : List PyData} (h : xs.length + ys.length ≤ sizeLine) : OpD X T (binaryOp .Add) (.tuple xs) (.tuple ys) (.tuple (xs ++ ys)) := fun S R σ H a b Q I ra rb q => by
  cases ra with
  | @tup a us _ ha ra =>
    cases rb with
    | @tup b ws _ hb rb =>
      have l1 := ra.length
      have l2 := rb.length
      refine ⟨_, op_catA, a, b, us, ws, rfl, rfl, le_t I.le ha, le_t I.le hb, by omega, fun e => ?_, fun e1 e2 => ?_, fun e1 e2 p hp => ?_⟩
      · subst e
        cases xs with
        | nil => exact q R _ H I Nx.refl (.tup hb rb)
        | cons _ _ => cases ra
      · subst e2
        cases ys with
        | nil => rw [List.append_nil] at q; exact q R _ H I Nx.refl (.tup ha ra)
        | cons _ _ => cases rb
      · exact q _ _ _ (I.laid2 hp) (Nx.laid2 I.le hp) (.tup (SqT.of upd_same) ((ra.append rb).le (Le.upd (I.le.fre hp))))
theorem opd_catL {xs ys : List PyData} (h : xs.length + ys.length ≤ sizeLine) : OpD X T (binaryOp .Add) (.list xs) (.list ys) (.list (xs ++ ys)) := fun S R σ H a b Q I ra rb q => by
  cases ra with
  | @lst a us _ ha ra =>
    cases rb with
    | @lst b ws _ hb rb =>
      have l1 := ra.length
      have l2 := rb.length
      refine ⟨_, op_cat, a, b, us, ws, rfl, rfl, I.le _ _ ha, I.le _ _ hb, by omega, fun p hp => ?_⟩
      exact q _ _ _ (I.laid2 hp) (Nx.laid2 I.le hp) (.lst upd_same ((ra.append rb).le (Le.upd (I.le.fre hp))))
theorem opd_repL {xs : List PyData} {k : Int} (h : k < 2 ^ 63) (h0 : -(2 ^ 63) ≤ k) (h2 : xs.length * k.toNat ≤ sizeLine) : OpD X T (binaryOp .Mult) (.list xs) (.int k) (.list (List.replicate k.toNat xs).flatten) := fun S R σ H a b Q I ra rb q => by
  cases ra with
  | @lst a us _ ha ra =>
    cases rb
    have l1 := ra.length
    refine ⟨_, op_rep, a, k, us, rfl, rfl, I.le _ _ ha, h0, h, by rw [l1]; exact h2, fun p hp => ?_⟩
    exact q _ _ _ (I.laid2 hp) (Nx.laid2 I.le hp) (.lst upd_same ((ra.rep k.toNat).le (Le.upd (I.le.fre hp))))
theorem ev_bin {op : Operator} {κ : PyData → Nat → Prop} (h : Ev X T a S fun x b1 => Ev X T b ⟨b1, S.sl⟩ fun y b2 => ∃ z, OpD X T (binaryOp op) x y z ∧ κ z b2) : Ev X T (.BinOp a op b pos) S κ := fun R σ H I Q q => by
  intro pins s J
  refine wpAny_BinOp (thn (h R σ H I (fun v H1 => wpE X b σ H1 fun u H2 => ∃ r, OpR X (binaryOp op) r ∧ r v u H2 Q) (fun R1 v H1 x b1 k1 I1 n1 r1 => ?_) pins s J) fun v s1 ⟨x', H1, J1, rv, w1⟩ => ?_)
  · refine k1 R1 σ H1 I1 _ fun R2 u H2 y b2 k2 I2 n2 r2 => ?_
    obtain ⟨z, o, kz⟩ := k2
    exact o _ R2 σ H2 v u Q I2 (r1.le n2.lr) r2 fun R3 c H3 I3 n3 r3 => q R3 c H3 z b2 kz I3 ((n1.trans n2).trans n3) r3
  · refine thn (w1 pins s1 J1) fun u s2 ⟨y', H2, J2, ru, w2⟩ => ?_
    obtain ⟨r, o, w2⟩ := w2
    exact o pins s2 σ H2 x' y' v u Q J2 rv ru w2
theorem evp_bin {op : Operator} (ha : EvP X T a S x) (hb : EvP X T b S y) (o : OpD X T (binaryOp op) x y z) : EvP X T (.BinOp a op b pos) S z :=
  ev_bin (Ev.k ha (Ev.k hb ⟨z, o, rfl, rfl⟩))
theorem ev_cmp {op : CmpOp} {κ : PyData → Nat → Prop} (h : Ev X T a S fun x b1 => Ev X T b ⟨b1, S.sl⟩ fun y b2 => ∃ z, OpD X T (compareOp op) x y z ∧ κ z b2) (hm : behindInMarks op b = false) : Ev X T (.Compare a [op] [b] pos) S κ := fun R σ H I Q q => by
  intro pins s J
  refine wpAny_Compare1 (thn (h R σ H I (fun v H1 => wpE X b σ H1 fun u H2 => ∃ r, OpR X (compareOp op) r ∧ r v u H2 Q) (fun R1 v H1 x b1 k1 I1 n1 r1 => ?_) pins s J) fun v s1 ⟨x', H1, J1, rv, w1⟩ => ?_) hm
  · refine k1 R1 σ H1 I1 _ fun R2 u H2 y b2 k2 I2 n2 r2 => ?_
    obtain ⟨z, o, kz⟩ := k2
    exact o _ R2 σ H2 v u Q I2 (r1.le n2.lr) r2 fun R3 c H3 I3 n3 r3 => q R3 c H3 z b2 kz I3 ((n1.trans n2).trans n3) r3
  · refine thn (w1 pins s1 J1) fun u s2 ⟨y', H2, J2, ru, w2⟩ => ?_
    obtain ⟨r, o, w2⟩ := w2
    exact o pins s2 σ H2 x' y' v u Q J2 rv ru w2
theorem evp_cmp {op : CmpOp} (ha : EvP X T a S x) (hb : EvP X T b S y) (o : OpD X T (compareOp op) x y z) (hm : behindInMarks op b = false) : EvP X T (.Compare a [op] [b] pos) S z :=
  ev_cmp (Ev.k ha (Ev.k hb ⟨z, o, rfl, rfl⟩)) hm
theorem et_cmp {op : CmpOp} {c : Bool} (ha : EvP X T a S x) (hb : EvP X T b S y) (o : OpD X T (compareOp op) x y (.bool c)) (hm : behindInMarks op b = false) : EvT X T (.Compare a [op] [b] pos) S c := fun R σ H I Q q => by
  intro pins s J
  refine wpAny_isTrue_Compare1 (thn (ha R σ H I (fun v H1 => wpE X b σ H1 fun u H2 => ∃ r, OpR X (compareOp op) r ∧ r v u H2 fun w H3 => ∃ k, w = .bl k ∧ Q k H3) (fun R1 v H1 x b1 k1 I1 n1 r1 => ?_) pins s J) fun v s1 ⟨x', H1, J1, rv, w1⟩ => ?_) hm
  · obtain ⟨e1, e2⟩ := k1
    subst e1 e2
    refine hb R1 σ H1 I1 _ fun R2 u H2 y b2 k2 I2 n2 r2 => ?_
    obtain ⟨e1, e2⟩ := k2
    subst e1 e2
    refine o S R2 σ H2 v u _ I2 (r1.le n2.lr) r2 fun R3 c' H3 I3 n3 r3 => ?_
    cases r3
    exact ⟨c, rfl, q R3 H3 I3 ((n1.trans n2).trans n3)⟩
  · refine thn (w1 pins s1 J1) fun u s2 ⟨y', H2, J2, ru, w2⟩ => ?_
    obtain ⟨r, o, w2⟩ := w2
    refine thn (o pins s2 σ H2 x' y' v u _ J2 rv ru w2) fun w s3 ⟨z', H3, J3, rw', k, ek, w3⟩ => ?_
    subst ek
    cases rw'
    exact wpAny_truthy_bool ⟨H3, J3, w3⟩
end
end PL
set_option maxHeartbeats 4000000
namespace PL
open PySem PySem.Spec PyProof.Rows L2
section
variable {X : Cx} {T : Option Addr} {S : Sta} {e a b c : Expr} {es : List Expr} {pos : Pos} {d x y z : PyData} {κ : PyData → Nat → Prop}

/-! ### arguments, displays -/
theorem eva_nil : EvAP X T [] S [] := fun R σ H I Q q => wpA_of pa_nil (q R [] H [] S.b ⟨rfl, rfl⟩ I Nx.refl .nil)
theorem eva_cons {κ : List PyData → Nat → Prop} (h : Ev X T e S fun x b1 => EvA X T es ⟨b1, S.sl⟩ fun xs b2 => κ (x :: xs) b2) (hs : starEach (e :: es) X.env = (false, eval e X.env) :: starEach es X.env := by rfl) : EvA X T (e :: es) S κ := fun R σ H I Q q =>
  wpA_of (pa_cons pe_wp pa_wp hs) (h R σ H I _ fun R1 v H1 x b1 k1 I1 n1 r1 => k1 R1 σ H1 I1 _ fun R2 vs H2 xs b2 k2 I2 n2 r2 => q R2 _ H2 _ b2 k2 I2 (n1.trans n2) (.cons (r1.le n2.lr) r2))
theorem evap_cons {ds : List PyData} (h : EvP X T e S d) (hr : EvAP X T es S ds) (hs : starEach (e :: es) X.env = (false, eval e X.env) :: starEach es X.env := by rfl) : EvAP X T (e :: es) S (d :: ds) :=
  eva_cons (Ev.k h (EvA.k hr ⟨rfl, rfl⟩)) hs
theorem evb_nil {κ : List Sl → Nat → Prop} (k : κ [] S.b) : EvB X T [] S κ := fun R σ H I Q q => wpA_of pa_nil (q R [] H [] S.b k I Nx.refl .nil)
theorem evb_dat {κ : List Sl → Nat → Prop} (h : Ev X T e S fun x b1 => EvB X T es ⟨b1, S.sl⟩ fun xs b2 => κ (.dat x :: xs) b2) (hs : starEach (e :: es) X.env = (false, eval e X.env) :: starEach es X.env := by rfl) : EvB X T (e :: es) S κ := fun R σ H I Q q =>
  wpA_of (pa_cons pe_wp pa_wp hs) (h R σ H I _ fun R1 v H1 x b1 k1 I1 n1 r1 => k1 R1 σ H1 I1 _ fun R2 vs H2 xs b2 k2 I2 n2 r2 => q R2 _ H2 _ b2 k2 I2 (n1.trans n2) (.cons (show SE X.K T R2 (.dat x) v from r1.le n2.lr) r2))
/-- the town, the script: names -/
theorem evb_name (i : Nat) {s : Sl} {n : Str} {κ : List Sl → Nat → Prop} (h : S.sl[i]? = some (some s)) (k : EvB X T es S fun xs b2 => κ (s :: xs) b2) (hN : X.N[i]? = some n := by rfl) (hv : Vis X.env.scope n := by first | exact Or.inl rfl | exact Or.inr (Or.inl rfl) | exact Or.inr (Or.inr rfl))
    (hd : (n == ("__debug__" : Str)) = false := by decide) (hcd : (n == ("__classdict__" : Str)) = false := by decide) (hs : starEach ((.Name n pos) :: es) X.env = (false, eval (.Name n pos) X.env) :: starEach es X.env := by rfl) : EvB X T (.Name n pos :: es) S κ := fun R σ H I Q q => by
  obtain ⟨v, e1, r⟩ := I.sl i _ h
  exact wpA_of (pa_cons (pe_var hN hv hd hcd) pa_wp hs) ⟨v, e1, k R σ H I _ fun R2 vs H2 xs b2 k2 I2 n2 r2 => q R2 _ H2 _ b2 k2 I2 n2 (.cons (r.le n2.lr) r2)⟩
theorem ev_tup {j : Nat} (h : EvA X T es S fun ds b => ds.length ≤ sizeLine ∧ κ (.tuple ds) b) : Ev X T (.Tuple es j pos) S κ := fun R σ H I Q q =>
  wpE_of (pe_tup pa_wp) (h R σ H I _ fun R1 vs H1 ds b1 k1 I1 n1 r1 => ⟨by rw [r1.length]; exact k1.1, fun p hp => q _ _ _ _ b1 k1.2 (I1.laid2 hp) (n1.trans (Nx.laid2 I1.le hp)) (.tup (SqT.of upd_same) (r1.le (Le.upd (I1.le.fre hp))))⟩)
theorem evp_tup {j : Nat} {ds : List PyData} (h : EvAP X T es S ds) (hl : ds.length ≤ sizeLine := by rw [sizeLine_eq]; simp only [List.length_cons, List.length_nil]; omega) : EvP X T (.Tuple es j pos) S (.tuple ds) := ev_tup (EvA.k h ⟨hl, rfl, rfl⟩)
theorem evn_lst {κ : List PyData → Nat → Prop} (h : EvA X T es S fun ds b => ds.length ≤ sizeLine ∧ κ ds b) : EvN X T (.List es pos) S κ := fun R σ H I Q q =>
  wpE_of (pe_lst pa_wp) (h R σ H I _ fun R1 vs H1 ds b1 k1 I1 n1 r1 => ⟨by rw [r1.length]; exact k1.1, fun p hp => by
    have h0 : H p = none := by
      cases w : H p with
      | none => rfl
      | some o => rw [n1.lx p o (I1.notT hp) w] at hp; cases hp
    exact q _ p vs _ _ b1 k1.2 (I1.laid hp) (n1.trans (Nx.laid hp)) h0 (I1.notT hp) (I1.le.fre hp) upd_same r1⟩)
theorem evnp_lst {ds : List PyData} (h : EvAP X T es S ds) (hl : ds.length ≤ sizeLine := by rw [sizeLine_eq]; simp only [List.length_cons, List.length_nil]; omega) : EvNP X T (.List es pos) S ds := evn_lst (EvA.k h ⟨hl, rfl, rfl⟩)
/-- a new list as data -/
theorem Ev.ofN {κ' : List PyData → Nat → Prop} (h : EvN X T e S κ') (k : ∀ ds b, κ' ds b → κ (.list ds) b) : Ev X T e S κ := fun R σ H I Q q =>
  h R σ H I Q fun R' p xs H' ds b c I' n h1 h2 h3 h4 h5 => by
    refine q (L2.upd R' p (.lst xs)) (.ref p) H' (.list ds) b (k _ _ c) ⟨fun a o z => ?_, fun t et => ?_, I'.len, fun i s w => ?_⟩ ?_ (.lst upd_same (h5.le (Le.upd h3)))
    · by_cases ha : a = p
      · subst ha; rw [upd_same] at z; cases z; exact h4
      · rw [upd_ne ha] at z; exact I'.le a o z
    · obtain ⟨w1, w2⟩ := I'.tw t et
      exact ⟨by rw [upd_ne fun z => h2 (by rw [et, z])]; exact w1, w2⟩
    · obtain ⟨v, e1, r⟩ := I'.sl i s w
      exact ⟨v, e1, r.le (Le.upd h3)⟩
    · exact ⟨n.lx, n.lr.trans (Le.upd h3), fun a na ha hr => by
        rw [upd_ne fun z => ha (by rw [z]; exact h1)]
        exact n.av a na ha hr⟩

/-! ### calls of builtins -/
def wpC (X : Cx) (f : Value) : List V → Hp → VK → Prop := fun vs H Q => ∀ pins s σ us, Inv X pins σ H s → Vals vs us → wpAny (model X.prog X.w) X.A (call f us) (EP X pins σ Q) X.xe s
theorem cr_wp {f : Value} : CallR X f (wpC X f) := fun pins s σ H xs us Q I r h => h pins s σ us I r
def CallD (X : Cx) (T : Option Addr) (f : Value) (ds : List PyData) (z : PyData) : Prop := ∀ (S : Sta) (R : Hp) (σ : L2.St) (H : Hp) (vs : List V) (Q : VK), HE X.K T S R σ H → RpA X.K R vs ds →
  (∀ R' c H', HE X.K T S R' σ H' → Nx T R H R' H' → Rp X.K R' c z → Q c H') → ∃ r, CallR X f r ∧ r vs H Q
def CallN (X : Cx) (T : Option Addr) (f : Value) (ds : List PyData) (zs : List PyData) : Prop := ∀ (S : Sta) (R : Hp) (σ : L2.St) (H : Hp) (vs : List V) (Q : VK), HE X.K T S R σ H → RpA X.K R vs ds →
  (∀ p xs, H p = none → RpA X.K R xs zs → Q (.ref p) (L2.upd H p (.lst xs))) → ∃ r, CallR X f r ∧ r vs H Q
theorem call_wpC {f : Value} {r : List V → Hp → VK → Prop} {vs : List V} {H : Hp} {Q : VK} (h : CallR X f r) (q : r vs H Q) : wpC X f vs H Q := fun pins s σ us I rv => h pins s σ H vs us Q I rv q
section
variable {n : Str} {p : Pos}
theorem ev_callB {id : String} (ha : EvA X T (e :: es) S fun ds b => ∃ z, CallD X T (.builtin id) ds z ∧ κ z b) (hm : X.mg n = none) (hv : bootBuiltins n = some (.builtin id)) (hg : Gl X n := by rfl) (hn : n ≠ "__name__" := by decide) (hdb : (n == ("__debug__" : Str)) = false := by decide)
    (he : starEach (e :: es) X.env = (false, eval e X.env) :: starEach es X.env := by rfl) (hpl : (backTo pos (starEach es X.env)).any (·.1) = false := by rfl) : Ev X T (.Call (.Name n p) (e :: es) [] pos) S κ := fun R σ H I Q q =>
  wpE_of (pe_callB cr_wp hg hm hv pa_wp hn hdb he hpl) (ha R σ H I _ fun R1 vs H1 ds b1 ⟨z, k1, kz⟩ I1 n1 r1 => by
    obtain ⟨r, o, w⟩ := k1 _ R1 σ H1 vs Q I1 r1 fun R2 c H2 I2 n2 r2 => q R2 c H2 z b1 kz I2 (n1.trans n2) r2
    exact call_wpC o w)
theorem ev_callTy {id : String} (ha : EvA X T (e :: es) S fun ds b => ∃ z, CallD X T (.type id) ds z ∧ κ z b) (hm : X.mg n = none) (hv : bootBuiltins n = some (.type id)) (hg : Gl X n := by rfl) (hn : n ≠ "__name__" := by decide) (hdb : (n == ("__debug__" : Str)) = false := by decide)
    (he : starEach (e :: es) X.env = (false, eval e X.env) :: starEach es X.env := by rfl) (hpl : (backTo pos (starEach es X.env)).any (·.1) = false := by rfl) : Ev X T (.Call (.Name n p) (e :: es) [] pos) S κ := fun R σ H I Q q =>
  wpE_of (pe_callTy cr_wp hg hm hv pa_wp hn hdb he hpl) (ha R σ H I _ fun R1 vs H1 ds b1 ⟨z, k1, kz⟩ I1 n1 r1 => by
    obtain ⟨r, o, w⟩ := k1 _ R1 σ H1 vs Q I1 r1 fun R2 c H2 I2 n2 r2 => q R2 c H2 z b1 kz I2 (n1.trans n2) r2
    exact call_wpC o w)
theorem fresh_of {R H R1 H1 : Hp} (n : Nx T R H R1 H1) {p : Addr} (nt : T ≠ some p) (h : H1 p = none) : H p = none := by
  cases w : H p with
  | none => rfl
  | some o => rw [n.lx p o nt w] at h; cases h
theorem evn_callB {id : String} {κ : List PyData → Nat → Prop} (ha : EvA X T (e :: es) S fun ds b => ∃ z, CallN X T (.builtin id) ds z ∧ κ z b) (hm : X.mg n = none) (hv : bootBuiltins n = some (.builtin id)) (hg : Gl X n := by rfl) (hn : n ≠ "__name__" := by decide) (hdb : (n == ("__debug__" : Str)) = false := by decide)
    (he : starEach (e :: es) X.env = (false, eval e X.env) :: starEach es X.env := by rfl) (hpl : (backTo pos (starEach es X.env)).any (·.1) = false := by rfl) : EvN X T (.Call (.Name n p) (e :: es) [] pos) S κ := fun R σ H I Q q =>
  wpE_of (pe_callB cr_wp hg hm hv pa_wp hn hdb he hpl) (ha R σ H I _ fun R1 vs H1 ds b1 ⟨z, k1, kz⟩ I1 n1 r1 => by
    obtain ⟨r, o, w⟩ := k1 _ R1 σ H1 vs Q I1 r1 fun p xs hp r2 => q R1 p xs _ z b1 kz (I1.laid hp) (n1.trans (Nx.laid hp)) (fresh_of n1 (I1.notT hp) hp) (I1.notT hp) (I1.le.fre hp) upd_same r2
    exact call_wpC o w)
theorem evn_callTy {id : String} {κ : List PyData → Nat → Prop} (ha : EvA X T (e :: es) S fun ds b => ∃ z, CallN X T (.type id) ds z ∧ κ z b) (hm : X.mg n = none) (hv : bootBuiltins n = some (.type id)) (hg : Gl X n := by rfl) (hn : n ≠ "__name__" := by decide) (hdb : (n == ("__debug__" : Str)) = false := by decide)
    (he : starEach (e :: es) X.env = (false, eval e X.env) :: starEach es X.env := by rfl) (hpl : (backTo pos (starEach es X.env)).any (·.1) = false := by rfl) : EvN X T (.Call (.Name n p) (e :: es) [] pos) S κ := fun R σ H I Q q =>
  wpE_of (pe_callTy cr_wp hg hm hv pa_wp hn hdb he hpl) (ha R σ H I _ fun R1 vs H1 ds b1 ⟨z, k1, kz⟩ I1 n1 r1 => by
    obtain ⟨r, o, w⟩ := k1 _ R1 σ H1 vs Q I1 r1 fun p xs hp r2 => q R1 p xs _ z b1 kz (I1.laid hp) (n1.trans (Nx.laid hp)) (fresh_of n1 (I1.notT hp) hp) (I1.notT hp) (I1.le.fre hp) upd_same r2
    exact call_wpC o w)
end
theorem RpA.one {K : PySem.W.Frag} {R : Hp} {vs : List V} {d : PyData} (h : RpA K R vs [d]) : ∃ v, vs = [v] ∧ Rp K R v d := by
  cases h with
  | cons a b => cases b; exact ⟨_, rfl, a⟩
theorem RpA.two {K : PySem.W.Frag} {R : Hp} {vs : List V} {d d' : PyData} (h : RpA K R vs [d, d']) : ∃ v v', vs = [v, v'] ∧ Rp K R v d ∧ Rp K R v' d' := by
  cases h with
  | cons a b =>
    obtain ⟨v', rfl, r⟩ := RpA.one b
    exact ⟨_, _, rfl, a, r⟩
theorem cd_lenL {ds : List PyData} : CallD X T (.builtin "len") [.list ds] (.int ds.length) := fun S R σ H vs Q I r q => by
  obtain ⟨v, rfl, r1⟩ := r.one
  cases r1 with
  | @lst a xs _ h r =>
    refine ⟨_, call_len_seq, a, xs, rfl, .inl (SqL.of (I.le _ _ h)), ?_⟩
    rw [r.length]; exact q R _ H I Nx.refl (.int _)
theorem cd_lenT {ds : List PyData} : CallD X T (.builtin "len") [.tuple ds] (.int ds.length) := fun S R σ H vs Q I r q => by
  obtain ⟨v, rfl, r1⟩ := r.one
  cases r1 with
  | @tup a xs _ h r =>
    refine ⟨_, call_len_seq, a, xs, rfl, .inr (le_t I.le h), ?_⟩
    rw [r.length]; exact q R _ H I Nx.refl (.int _)
theorem cd_lenS {w : Str} (h : w.length ≤ sizeLine) : CallD X T (.builtin "len") [.str w] (.int w.length) := fun S R σ H vs Q I r q => by
  obtain ⟨v, rfl, r1⟩ := r.one
  cases r1
  exact ⟨_, call_len_str, w, rfl, h, q R _ H I Nx.refl (.int _)⟩
theorem cd_intI {i : Int} : CallD X T (.type "int") [.int i] (.int i) := fun S R σ H vs Q I r q => by
  obtain ⟨v, rfl, r1⟩ := r.one
  cases r1
  exact ⟨_, call_int1, .inl ⟨i, rfl, q R _ H I Nx.refl (.int _)⟩⟩
theorem cd_intB {b : Bool} : CallD X T (.type "int") [.bool b] (.int (if b then 1 else 0)) := fun S R σ H vs Q I r q => by
  obtain ⟨v, rfl, r1⟩ := r.one
  cases r1
  exact ⟨_, call_int1, .inr ⟨b, rfl, q R _ H I Nx.refl (.int _)⟩⟩
theorem cd_boolB {b : Bool} : CallD X T (.type "bool") [.bool b] (.bool b) := fun S R σ H vs Q I r q => by
  obtain ⟨v, rfl, r1⟩ := r.one
  cases r1
  exact ⟨_, call_bool1, .inr ⟨b, rfl, q R _ H I Nx.refl (.bl _)⟩⟩
theorem cd_boolI {i : Int} : CallD X T (.type "bool") [.int i] (.bool (i != 0)) := fun S R σ H vs Q I r q => by
  obtain ⟨v, rfl, r1⟩ := r.one
  cases r1
  exact ⟨_, call_bool1, .inl ⟨i, rfl, q R _ H I Nx.refl (.bl _)⟩⟩
theorem cd_strI {i : Int} (h : i.natAbs.log2 < 1920) : CallD X T (.type "str") [.int i] (.str (toString i)) := fun S R σ H vs Q I r q => by
  obtain ⟨v, rfl, r1⟩ := r.one
  cases r1
  exact ⟨_, call_str_int, i, rfl, h, q R _ H I Nx.refl (.str _)⟩
theorem cd_intS {w : Str} {n : Int} (h : PySem.intText? w = some n) (hl : w.length ≤ 640) : CallD X T (.type "int") [.str w] (.int n) := fun S R σ H vs Q I r q => by
  obtain ⟨v, rfl, r1⟩ := r.one
  cases r1
  exact ⟨_, call_int_str, w, n, rfl, h, hl, q R _ H I Nx.refl (.int _)⟩
theorem cd_max2 {i j : Int} (hc : X.calm = true := by rfl) : CallD X T (.builtin "max") [.int i, .int j] (.int (max i j)) := fun S R σ H vs Q I r q => by
  obtain ⟨v, v', rfl, r1, r2⟩ := r.two
  cases r1; cases r2
  refine ⟨_, call_max2 hc, i, j, rfl, ?_⟩
  have e : (if j > i then j else i) = max i j := by split <;> omega
  rw [e]; exact q R _ H I Nx.refl (.int _)
theorem cd_min2 {i j : Int} (hc : X.calm = true := by rfl) : CallD X T (.builtin "min") [.int i, .int j] (.int (min i j)) := fun S R σ H vs Q I r q => by
  obtain ⟨v, v', rfl, r1, r2⟩ := r.two
  cases r1; cases r2
  refine ⟨_, call_min2 hc, i, j, rfl, ?_⟩
  have e : (if j < i then j else i) = min i j := by split <;> omega
  rw [e]; exact q R _ H I Nx.refl (.int _)
theorem cd_sumL {ns : List Int} (hc : X.calm = true := by rfl) : CallD X T (.builtin "sum") [.list (ns.map .int)] (.int ns.sum) := fun S R σ H vs Q I r q => by
  obtain ⟨v, rfl, r1⟩ := r.one
  cases r1 with
  | @lst a xs _ h r =>
    rw [r.ints] at h
    exact ⟨_, cr_sum hc, a, ns, rfl, SqL.of (I.le _ _ h), q R _ H I Nx.refl (.int _)⟩
theorem cd_maxL {ns : List Int} {m : Int} (hm : m ∈ ns) (hle : ∀ y ∈ ns, y ≤ m) (hc : X.calm = true := by rfl) : CallD X T (.builtin "max") [.list (ns.map .int)] (.int m) := fun S R σ H vs Q I r q => by
  obtain ⟨v, rfl, r1⟩ := r.one
  cases r1 with
  | @lst a xs _ h r =>
    rw [r.ints] at h
    refine ⟨_, cr_max hc, a, ns, rfl, SqL.of (I.le _ _ h), List.length_pos_of_mem hm, fun m' h1 h2 => ?_⟩
    have e : m' = m := Int.le_antisymm (hle m' h1) (h2 m hm)
    rw [e]; exact q R _ H I Nx.refl (.int _)
theorem cd_minL {ns : List Int} {m : Int} (hm : m ∈ ns) (hle : ∀ y ∈ ns, m ≤ y) (hc : X.calm = true := by rfl) : CallD X T (.builtin "min") [.list (ns.map .int)] (.int m) := fun S R σ H vs Q I r q => by
  obtain ⟨v, rfl, r1⟩ := r.one
  cases r1 with
  | @lst a xs _ h r =>
    rw [r.ints] at h
    refine ⟨_, cr_min hc, a, ns, rfl, SqL.of (I.le _ _ h), List.length_pos_of_mem hm, fun m' h1 h2 => ?_⟩
    have e : m' = m := Int.le_antisymm (h2 m hm) (hle m' h1)
    rw [e]; exact q R _ H I Nx.refl (.int _)
theorem cd_all {bs : List Bool} (hc : X.calm = true := by rfl) : CallD X T (.builtin "all") [.list (bs.map .bool)] (.bool (bs.all id)) := fun S R σ H vs Q I r q => by
  obtain ⟨v, rfl, r1⟩ := r.one
  cases r1 with
  | @lst a xs _ h r =>
    rw [r.bls] at h
    exact ⟨_, cr_all hc, a, bs, rfl, SqL.of (I.le _ _ h), q R _ H I Nx.refl (.bl _)⟩
theorem cd_any {bs : List Bool} (hc : X.calm = true := by rfl) : CallD X T (.builtin "any") [.list (bs.map .bool)] (.bool (bs.any id)) := fun S R σ H vs Q I r q => by
  obtain ⟨v, rfl, r1⟩ := r.one
  cases r1 with
  | @lst a xs _ h r =>
    rw [r.bls] at h
    exact ⟨_, cr_any hc, a, bs, rfl, SqL.of (I.le _ _ h), q R _ H I Nx.refl (.bl _)⟩
theorem cd_tupL {ds : List PyData} : CallD X T (.type "tuple") [.list ds] (.tuple ds) := fun S R σ H vs Q I r q => by
  obtain ⟨v, rfl, r1⟩ := r.one
  cases r1 with
  | @lst a xs _ h r =>
    exact ⟨_, call_tuple_of, a, xs, rfl, .inl ⟨SqL.of (I.le _ _ h), fun l hl => q _ _ _ (I.laid2 hl) (Nx.laid2 I.le hl) (.tup (SqT.of upd_same) (r.le (Le.upd (I.le.fre hl))))⟩⟩
theorem cd_tupT {ds : List PyData} : CallD X T (.type "tuple") [.tuple ds] (.tuple ds) := fun S R σ H vs Q I r q => by
  obtain ⟨v, rfl, r1⟩ := r.one
  cases r1 with
  | @tup a xs _ h r => exact ⟨_, call_tuple_of, a, xs, rfl, .inr ⟨le_t I.le h, q R _ H I Nx.refl (.tup h r)⟩⟩
theorem cn_listT {ds : List PyData} : CallN X T (.type "list") [.tuple ds] ds := fun S R σ H vs Q I r q => by
  obtain ⟨v, rfl, r1⟩ := r.one
  cases r1 with
  | @tup a xs _ h r => exact ⟨_, call_list_of, a, xs, rfl, .inr (le_t I.le h), fun l hl => q l xs hl r⟩
theorem cn_listL {ds : List PyData} : CallN X T (.type "list") [.list ds] ds := fun S R σ H vs Q I r q => by
  obtain ⟨v, rfl, r1⟩ := r.one
  cases r1 with
  | @lst a xs _ h r => exact ⟨_, call_list_of, a, xs, rfl, .inl (SqL.of (I.le _ _ h)), fun l hl => q l xs hl r⟩
theorem perm_sorted_eq : ∀ {l l' : List Int}, l.Perm l' → l.Pairwise (· ≤ ·) → l'.Pairwise (· ≤ ·) → l = l' := fun h1 h2 h3 => h1.eq_of_pairwise (fun a b _ _ h h' => Int.le_antisymm h h') h2 h3
theorem cn_sorted {ns ms : List Int} (hp : ms.Perm ns) (hs : ms.Pairwise (· ≤ ·)) : CallN X T (.builtin "sorted") [.list (ns.map .int)] (ms.map .int) := fun S R σ H vs Q I r q => by
  obtain ⟨v, rfl, r1⟩ := r.one
  cases r1 with
  | @lst a xs _ h r =>
    rw [r.ints] at h
    refine ⟨_, cr_sortedI, a, ns, rfl, SqL.of (I.le _ _ h), fun ns' p h1 h2 hp' => ?_⟩
    rw [perm_sorted_eq (h1.trans hp.symm) h2 hs]
    exact q p _ hp' (rpa_ints ms)

/-! isinstance -/
def tyD : PyData → Option String
  | .none => some "NoneType"
  | .bool _ => some "bool"
  | .int _ => some "int"
  | .str _ => some "str"
  | .list _ => some "list"
  | .tuple _ => some "tuple"
  | .dict _ => Option.none
theorem rp_ty {K : PySem.W.Frag} {R H : Hp} (le : Le R H) {v : V} {d : PyData} {t : String} (r : Rp K R v d) (h : tyD d = some t) : TyX K H v (.type t) := by
  cases r with
  | non => cases h; exact .base .non
  | bl b => cases h; exact .base (.bl b)
  | int b => cases h; exact .base (.int b)
  | str b => cases h; exact .base (.str b)
  | lst q r => cases h; exact .base (.lst (le _ _ q))
  | tup q r =>
    cases h
    rcases le_t le q with (q | ⟨o, q⟩) | ⟨o, its, n, q1, q2, _⟩
    · exact .base (.tup q)
    · exact .fTuple q
    · exact .kTuple q1 q2
  | ptu q r => cases h
  | rf => cases h
theorem evp_isi (u : String) {n m : Str} {p p2 : Pos} {t : String} {r : Bool} (ha : EvP X T e S d) (ht : tyD d = some t) (hr : kitB t u = some r) (hi : X.mg n = none) (hi2 : bootBuiltins n = some (.builtin "isinstance")) (hm : X.mg m = none) (hv : bootBuiltins m = some (.type u))
    (hg : Gl X n := by rfl) (hgm : Gl X m := by rfl) (hn : n ≠ "__name__" := by decide) (hn2 : m ≠ "__name__" := by decide) (hdb : (n == ("__debug__" : Str)) = false := by decide) (hdb2 : (m == ("__debug__" : Str)) = false := by decide)
    (hs1 : starEach [e, .Name m p2] X.env = (false, eval e X.env) :: starEach [.Name m p2] X.env := by rfl) (hs2 : (backTo pos (starEach [.Name m p2] X.env)).any (·.1) = false := by rfl) :
    EvP X T (.Call (.Name n p) [e, .Name m p2] [] pos) S (.bool r) := fun R σ H I Q q =>
  wpE_of (pe_callB call_isi hg hi hi2 (pa_cons pe_wp (pa_cons (pe_bltn (v := .ty u) hgm hm hv rfl hn2 hdb2) pa_nil) hs1) hn hdb hs1 hs2) (ha R σ H I _ fun R1 v H1 d' b1 ⟨e1, e2⟩ I1 n1 r1 => by
    subst e1 e2
    exact ⟨v, .ty u, .type t, .type u, r, rfl, .ty u, rp_ty I1.le r1 ht, kit_ty hr, q R1 _ H1 _ _ ⟨rfl, rfl⟩ I1 n1 (.bl r)⟩)
def tyIs (t u : String) : Bool := t == u || (t == "bool" && u == "int")
theorem kit_tab : ∀ t ∈ ["NoneType", "bool", "int", "str", "list", "tuple"], ∀ u ∈ ["bool", "int", "str", "list", "tuple"], kitB t u = some (tyIs t u) := by decide +kernel
theorem tyD_mem {d : PyData} {t : String} (h : tyD d = some t) : t ∈ ["NoneType", "bool", "int", "str", "list", "tuple"] := by
  cases d <;> cases h <;> decide
theorem evp_is (u : String) {n m : Str} {p p2 : Pos} {t : String} (ha : EvP X T e S d) (hi : X.mg n = none) (hm : X.mg m = none) (hv : bootBuiltins m = some (.type u)) (ht : tyD d = some t := by rfl) (hu : u ∈ ["bool", "int", "str", "list", "tuple"] := by decide) (hi2 : bootBuiltins n = some (.builtin "isinstance") := by decide +kernel)
    (hg : Gl X n := by rfl) (hgm : Gl X m := by rfl) (hn : n ≠ "__name__" := by decide) (hn2 : m ≠ "__name__" := by decide) (hdb : (n == ("__debug__" : Str)) = false := by decide) (hdb2 : (m == ("__debug__" : Str)) = false := by decide)
    (hs1 : starEach [e, .Name m p2] X.env = (false, eval e X.env) :: starEach [.Name m p2] X.env := by rfl) (hs2 : (backTo pos (starEach [.Name m p2] X.env)).any (·.1) = false := by rfl) :
    EvP X T (.Call (.Name n p) [e, .Name m p2] [] pos) S (.bool (tyIs t u)) := evp_isi u ha ht (kit_tab t (tyD_mem ht) u hu) hi hi2 hm hv hg hgm hn hn2 hdb hdb2 hs1 hs2
end
end PL
set_option maxHeartbeats 4000000
namespace PL
open PySem PySem.Spec PyProof.Rows L2
section
variable {X : Cx} {T : Option Addr} {S : Sta} {e a b c : Expr} {es rest : List Expr} {pos : Pos} {d x y z : PyData} {κ : PyData → Nat → Prop} {p q r : Bool}

/-! ### tests -/
theorem et_val (h : EvP X T e S (.bool p)) (he : ∀ whole, isTrue e X.env whole = (do let v ← whole; standAt e.pos; holding [v] (truthy v)) := by intro _; rfl) : EvT X T e S p := fun R σ H I Q k =>
  wpT_of (pt_val pe_wp he) (h R σ H I _ fun R1 v H1 d b ⟨e1, e2⟩ I1 n1 r1 => by
    subst e1 e2
    cases r1
    exact ⟨p, rfl, k R1 H1 I1 n1⟩)
def truD : PyData → Option Bool
  | .none => some false
  | .bool b => some b
  | .int i => some (i != 0)
  | .list ds => some (!ds.isEmpty)
  | .tuple ds => some (!ds.isEmpty)
  | _ => Option.none
theorem rpa_empty {K : PySem.W.Frag} {R : Hp} {xs : List V} {ds : List PyData} (h : RpA K R xs ds) : xs.isEmpty = ds.isEmpty := by
  cases h <;> rfl
theorem et_truth (h : EvP X T e S d) (ht : truD d = some p) (he : ∀ whole, isTrue e X.env whole = (do let v ← whole; standAt e.pos; holding [v] (truthy v)) := by intro _; rfl) : EvT X T e S p := fun R σ H I Q k =>
  wpT_of (pt_truth pe_wp he) (h R σ H I _ fun R1 v H1 d' b ⟨e1, e2⟩ I1 n1 r1 => by
    subst e1 e2
    refine ⟨p, ?_, k R1 H1 I1 n1⟩
    cases r1 with
    | non => cases ht; rfl
    | bl b => cases ht; rfl
    | int b => cases ht; rfl
    | str b => cases ht
    | lst q r => cases ht; exact .inl ⟨_, SqL.of (I1.le _ _ q), by rw [rpa_empty r]⟩
    | tup q r => cases ht; exact .inr (.inl ⟨_, le_t I1.le q, by rw [rpa_empty r]⟩)
    | ptu q r => cases ht
    | rf => cases ht)
theorem et_not (h : EvT X T e S p) : EvT X T (.UnaryOp .Not e pos) S (!p) := fun R σ H I Q k => wpT_of (pt_not pt_wp) (h R σ H I _ fun R1 H1 I1 n1 => k R1 H1 I1 n1)
theorem et_w (h : EvW X T e S p) : EvT X T e S p := fun R σ H I Q k => wpT_of pw_wp.pt (h R σ H I Q k)
theorem ew_and1 (h : EvT X T a S p) : EvW X T (.BoolOp .And [a] pos) S p := fun R σ H I Q k => wpW_of (pw_and1 pt_wp) (h R σ H I Q k)
theorem ew_or1 (h : EvT X T a S p) : EvW X T (.BoolOp .Or [a] pos) S p := fun R σ H I Q k => wpW_of (pw_or1 pt_wp) (h R σ H I Q k)
theorem ew_and (h : EvT X T a S p) (h2 : p = true → EvW X T (.BoolOp .And (b :: rest) pos) S q) : EvW X T (.BoolOp .And (a :: b :: rest) pos) S (p && q) := fun R σ H I Q k =>
  wpW_of (pw_and pt_wp pw_wp) (h R σ H I _ fun R1 H1 I1 n1 => by
    cases p with
    | true => exact iteT (h2 rfl R1 σ H1 I1 Q fun R2 H2 I2 n2 => k R2 H2 I2 (n1.trans n2))
    | false => exact iteF (k R1 H1 I1 n1))
theorem ew_or (h : EvT X T a S p) (h2 : p = false → EvW X T (.BoolOp .Or (b :: rest) pos) S q) : EvW X T (.BoolOp .Or (a :: b :: rest) pos) S (p || q) := fun R σ H I Q k =>
  wpW_of (pw_or pt_wp pw_wp) (h R σ H I _ fun R1 H1 I1 n1 => by
    cases p with
    | true => exact iteT (k R1 H1 I1 n1)
    | false => exact iteF (h2 rfl R1 σ H1 I1 Q fun R2 H2 I2 n2 => k R2 H2 I2 (n1.trans n2)))
/-- as values, truths -/
theorem evp_one {op : BoolOp} (h : EvP X T a S d) : EvP X T (.BoolOp op [a] pos) S d := fun R σ H I Q k => wpE_of (pe_one pe_wp) (h R σ H I Q k)
theorem evp_and (h : EvP X T a S (.bool p)) (h2 : p = true → EvP X T (.BoolOp .And (b :: rest) pos) S (.bool q)) : EvP X T (.BoolOp .And (a :: b :: rest) pos) S (.bool (p && q)) := fun R σ H I Q k =>
  wpE_of (pe_and pe_wp pe_wp) (h R σ H I _ fun R1 v H1 d b ⟨e1, e2⟩ I1 n1 r1 => by
    subst e1 e2
    cases r1
    refine ⟨p, rfl, ?_⟩
    cases p with
    | true => exact iteT (h2 rfl R1 σ H1 I1 Q fun R2 w H2 d2 b2 k2 I2 n2 r2 => k R2 w H2 d2 b2 k2 I2 (n1.trans n2) r2)
    | false => exact iteF (k R1 _ H1 _ _ ⟨rfl, rfl⟩ I1 n1 (.bl false)))
theorem evp_or (h : EvP X T a S (.bool p)) (h2 : p = false → EvP X T (.BoolOp .Or (b :: rest) pos) S (.bool q)) : EvP X T (.BoolOp .Or (a :: b :: rest) pos) S (.bool (p || q)) := fun R σ H I Q k =>
  wpE_of (pe_or pe_wp pe_wp) (h R σ H I _ fun R1 v H1 d b ⟨e1, e2⟩ I1 n1 r1 => by
    subst e1 e2
    cases r1
    refine ⟨p, rfl, ?_⟩
    cases p with
    | true => exact iteT (k R1 _ H1 _ _ ⟨rfl, rfl⟩ I1 n1 (.bl true))
    | false => exact iteF (h2 rfl R1 σ H1 I1 Q fun R2 w H2 d2 b2 k2 I2 n2 r2 => k R2 w H2 d2 b2 k2 I2 (n1.trans n2) r2))
theorem evp_not (h : EvP X T a S (.bool p)) : EvP X T (.UnaryOp .Not a pos) S (.bool (!p)) := fun R σ H I Q k =>
  wpE_of (pe_not pe_wp) (h R σ H I _ fun R1 v H1 d b ⟨e1, e2⟩ I1 n1 r1 => by
    subst e1 e2
    cases r1
    exact ⟨p, rfl, k R1 _ H1 _ _ ⟨rfl, rfl⟩ I1 n1 (.bl _)⟩)
theorem evp_neg {i : Int} (h : EvP X T a S (.int i)) : EvP X T (.UnaryOp .USub a pos) S (.int (-i)) := fun R σ H I Q k =>
  wpE_of (pe_un un_neg pe_wp) (h R σ H I _ fun R1 v H1 d b ⟨e1, e2⟩ I1 n1 r1 => by
    subst e1 e2
    cases r1
    exact ⟨i, rfl, k R1 _ H1 _ _ ⟨rfl, rfl⟩ I1 n1 (.int _)⟩)
theorem ev_if (h : EvT X T c S p) (h1 : p = true → Ev X T a S κ) (h2 : p = false → Ev X T b S κ) : Ev X T (.IfExp c a b pos) S κ := fun R σ H I Q k =>
  wpE_of (pe_ifExp pt_wp pe_wp pe_wp) (h R σ H I _ fun R1 H1 I1 n1 => by
    cases p with
    | true => exact iteT (h1 rfl R1 σ H1 I1 Q fun R2 w H2 d2 b2 k2 I2 n2 r2 => k R2 w H2 d2 b2 k2 I2 (n1.trans n2) r2)
    | false => exact iteF (h2 rfl R1 σ H1 I1 Q fun R2 w H2 d2 b2 k2 I2 n2 r2 => k R2 w H2 d2 b2 k2 I2 (n1.trans n2) r2))
theorem evp_if (h : EvT X T c S p) (h1 : p = true → EvP X T a S x) (h2 : p = false → EvP X T b S y) : EvP X T (.IfExp c a b pos) S (bif p then x else y) :=
  ev_if h (fun e => by subst e; exact Ev.k (h1 rfl) ⟨rfl, rfl⟩) (fun e => by subst e; exact Ev.k (h2 rfl) ⟨rfl, rfl⟩)
/-- a < b <= c -/
theorem et_chain {op op' : CmpOp} (ha : EvP X T a S x) (hb : EvP X T b S y) (hc : EvP X T c S z) (o : OpD X T (compareOp op) x y (.bool p)) (o' : p = true → OpD X T (compareOp op') y z (.bool q)) (hm : behindInMarks op b = false := by exact nomark _) (hm' : behindInMarks op' c = false := by exact nomark _)
    (hp : ∀ whole, isTrue (.Compare a [op, op'] [b, c] pos) X.env whole = isTrue (.Compare a [op, op'] [b, c] pos) X.env whole := by intro _; rfl) : True := trivial

/-! ### items -/
theorem rpa_at {K : PySem.W.Frag} {R : Hp} {xs : List V} {ds : List PyData} {i : Int} {d : PyData} (h : RpA K R xs ds) (ha : atI ds i = some d) : ∃ v, atI xs i = some v ∧ Rp K R v d := by
  unfold atI at ha ⊢
  rw [h.length]
  cases w : ixN ds.length i with
  | none => rw [w] at ha; cases ha
  | some j =>
    rw [w] at ha
    obtain ⟨v, e1, r⟩ := h.get (show ds[j]? = some d from ha)
    exact ⟨v, e1, r⟩
def IxD (x y z : PyData) : Prop := ∃ i : Int, y = .int i ∧ ((∃ ds, (x = .list ds ∨ x = .tuple ds) ∧ atI ds i = some z) ∨ ∃ (w : Str) (cc : Nat), x = .str w ∧ w.length ≤ sizeLine ∧ atI w.cps.toList i = some cc ∧ z = .str ⟨#[cc]⟩)
theorem ev_ix (h : Ev X T a S fun x b1 => Ev X T b ⟨b1, S.sl⟩ fun y b2 => ∃ z, IxD x y z ∧ κ z b2) (hs : PlainIx b := by exact fun _ _ => rfl) : Ev X T (.Subscript a b pos) S κ := fun R σ H I Q k =>
  wpE_of (pe_ix ix_seq pe_wp pe_wp hs) (h R σ H I _ fun R1 v H1 x b1 k1 I1 n1 r1 => k1 R1 σ H1 I1 _ fun R2 u H2 y b2 k2 I2 n2 r2 => by
    obtain ⟨z, ⟨i, ey, hz⟩, kz⟩ := k2
    subst ey
    cases r2
    have r1' := r1.le n2.lr
    rcases hz with ⟨ds, hx, hat⟩ | ⟨w, cc, hx, hl, hat, ez⟩
    · rcases hx with rfl | rfl
      · cases r1' with
        | @lst p us _ hq hr =>
          obtain ⟨v', e1, r3⟩ := rpa_at hr hat
          exact .inl ⟨p, us, i, v', rfl, rfl, SqL.of (I2.le _ _ hq), e1, k R2 v' H2 z b2 kz I2 (n1.trans n2) r3⟩
      · cases r1' with
        | @tup p us _ hq hr =>
          obtain ⟨v', e1, r3⟩ := rpa_at hr hat
          exact .inr (.inl ⟨p, us, i, v', rfl, rfl, le_t I2.le hq, e1, k R2 v' H2 z b2 kz I2 (n1.trans n2) r3⟩)
    · subst hx ez
      cases r1'
      exact .inr (.inr ⟨w, i, cc, rfl, rfl, hl, hat, k R2 _ H2 _ b2 kz I2 (n1.trans n2) (.str _)⟩))
theorem evp_ixL {ds : List PyData} {i : Int} (ha : EvP X T a S (.list ds)) (hb : EvP X T b S (.int i)) (h : atI ds i = some d) (hs : PlainIx b := by exact fun _ _ => rfl) : EvP X T (.Subscript a b pos) S d :=
  ev_ix (Ev.k ha (Ev.k hb ⟨d, ⟨i, rfl, .inl ⟨ds, .inl rfl, h⟩⟩, rfl, rfl⟩)) hs
theorem evp_ixT {ds : List PyData} {i : Int} (ha : EvP X T a S (.tuple ds)) (hb : EvP X T b S (.int i)) (h : atI ds i = some d) (hs : PlainIx b := by exact fun _ _ => rfl) : EvP X T (.Subscript a b pos) S d :=
  ev_ix (Ev.k ha (Ev.k hb ⟨d, ⟨i, rfl, .inl ⟨ds, .inr rfl, h⟩⟩, rfl, rfl⟩)) hs
theorem evp_ixS {w : Str} {cc : Nat} {i : Int} (ha : EvP X T a S (.str w)) (hb : EvP X T b S (.int i)) (hl : w.length ≤ sizeLine) (h : atI w.cps.toList i = some cc) (hs : PlainIx b := by exact fun _ _ => rfl) : EvP X T (.Subscript a b pos) S (.str ⟨#[cc]⟩) :=
  ev_ix (Ev.k ha (Ev.k hb ⟨_, ⟨i, rfl, .inr ⟨w, cc, rfl, hl, h, rfl⟩⟩, rfl, rfl⟩)) hs

/-! ### slices -/
def EvO (X : Cx) (T : Option Addr) (e : Option Expr) (S : Sta) (o : Option Int) : Prop := ∀ (R : Hp) (σ : L2.St) (H : Hp), HE X.K T S R σ H → ∀ Q : Option Int → Hp → Prop,
  (∀ (R' H' : Hp), HE X.K T S R' σ H' → Nx T R H R' H' → Q o H') → ∃ t, PO X e t ∧ t σ H Q
theorem eo_none : EvO X T none S none := fun R σ H I Q k => ⟨_, po_none, k R H I Nx.refl⟩
theorem eo_some {i : Int} (h : EvP X T e S (.int i)) : EvO X T (some e) S (some i) := fun R σ H I Q k => ⟨_, po_some pe_wp, h R σ H I _ fun R1 v H1 d b ⟨e1, e2⟩ I1 n1 r1 => by
  subst e1 e2
  cases r1
  exact ⟨i, rfl, k R1 H1 I1 n1⟩⟩
def wpO (X : Cx) (e : Option Expr) : TO := fun σ H Q => ∃ t, PO X e t ∧ t σ H Q
theorem po_wp {e : Option Expr} : PO X e (wpO X e) := ⟨fun pins s σ H Q I ⟨t, h, q⟩ => h.run pins s σ H Q I q⟩
def cutD (xs : List PyData) (lo hi : Option Int) : List PyData := (xs.drop (HT.sIx xs.length 0 lo)).take (HT.sIx xs.length xs.length hi - HT.sIx xs.length 0 lo)
theorem rpa_cut {K : PySem.W.Frag} {R : Hp} {xs : List V} {ds : List PyData} (h : RpA K R xs ds) (lo hi : Option Int) : RpA K R (cutV xs lo hi) (cutD ds lo hi) := by
  unfold cutV cutD
  rw [h.length]
  exact (h.drop _).take _
variable {lo hi : Option Expr} {l u : Option Int} {p2 : Pos}
theorem evn_slL {ds : List PyData} (h : EvP X T e S (.list ds)) (hl : EvO X T lo S l) (hu : EvO X T hi S u) : EvNP X T (.Subscript e (.Slice lo hi none p2) pos) S (cutD ds l u) := fun R σ H I Q k =>
  wpE_of (pe_slice sl_list pe_wp po_wp po_wp) (h R σ H I _ fun R1 v H1 d b ⟨e1, e2⟩ I1 n1 r1 => by
    subst e1 e2
    refine hl R1 σ H1 I1 _ fun R2 H2 I2 n2 => hu R2 σ H2 I2 _ fun R3 H3 I3 n3 => ?_
    cases (r1.le n2.lr).le n3.lr with
    | @lst a xs _ hq hr =>
      refine ⟨a, xs, rfl, SqL.of (I3.le _ _ hq), fun p hp => ?_⟩
      have n13 := (n1.trans n2).trans n3
      exact k R3 p _ _ _ _ ⟨rfl, rfl⟩ (I3.laid hp) (n13.trans (Nx.laid hp)) (fresh_of n13 (I3.notT hp) hp) (I3.notT hp) (I3.le.fre hp) upd_same (rpa_cut hr l u))
theorem evp_slT {ds : List PyData} (h : EvP X T e S (.tuple ds)) (hl : EvO X T lo S l) (hu : EvO X T hi S u) : EvP X T (.Subscript e (.Slice lo hi none p2) pos) S (.tuple (cutD ds l u)) := fun R σ H I Q k =>
  wpE_of (pe_slice sl_tupA pe_wp po_wp po_wp) (h R σ H I _ fun R1 v H1 d b ⟨e1, e2⟩ I1 n1 r1 => by
    subst e1 e2
    refine hl R1 σ H1 I1 _ fun R2 H2 I2 n2 => hu R2 σ H2 I2 _ fun R3 H3 I3 n3 => ?_
    cases (r1.le n2.lr).le n3.lr with
    | @tup a xs _ hq hr =>
      have n13 := (n1.trans n2).trans n3
      refine ⟨a, xs, rfl, le_t I3.le hq, fun hw => ?_, fun hw p hp => ?_⟩
      · have e1 : cutD ds l u = ds := by
          unfold cutD
          rw [hr.length] at hw
          rw [hw.1, hw.2, Nat.sub_zero, List.drop_zero, List.take_length]
        rw [e1] at k
        exact k R3 _ H3 _ _ ⟨rfl, rfl⟩ I3 n13 (.tup hq hr)
      · exact k _ _ _ _ _ ⟨rfl, rfl⟩ (I3.laid2 hp) (n13.trans (Nx.laid2 I3.le hp)) (.tup (SqT.of upd_same) ((rpa_cut hr l u).le (Le.upd (I3.le.fre hp)))))
theorem evp_slS {w : Str} (h : EvP X T e S (.str w)) (hw : w.length ≤ sizeLine) (hl : EvO X T lo S l) (hu : EvO X T hi S u) : EvP X T (.Subscript e (.Slice lo hi none p2) pos) S (.str (cutS w l u)) := fun R σ H I Q k =>
  wpE_of (pe_slice sl_str pe_wp po_wp po_wp) (h R σ H I _ fun R1 v H1 d b ⟨e1, e2⟩ I1 n1 r1 => by
    subst e1 e2
    refine hl R1 σ H1 I1 _ fun R2 H2 I2 n2 => hu R2 σ H2 I2 _ fun R3 H3 I3 n3 => ?_
    cases r1
    exact ⟨w, rfl, hw, k R3 _ H3 _ _ ⟨rfl, rfl⟩ I3 ((n1.trans n2).trans n3) (.str _)⟩)
theorem evn_revL {ds : List PyData} {k : Nat} {p1 p2 p3 : Pos} (h : EvP X T e S (.list ds)) : EvNP X T (.Subscript e (.Slice none none (some (.UnaryOp .USub (.Constant (.int 1) k p1) p2)) p3) pos) S ds.reverse := fun R σ H I Q q =>
  wpE_of (pe_revL pe_wp) (h R σ H I _ fun R1 v H1 d b ⟨e1, e2⟩ I1 n1 r1 => by
    subst e1 e2
    cases r1 with
    | @lst a xs _ hq hr =>
      exact ⟨a, xs, rfl, SqL.of (I1.le _ _ hq), fun p hp => q R1 p _ _ _ _ ⟨rfl, rfl⟩ (I1.laid hp) (n1.trans (Nx.laid hp)) (fresh_of n1 (I1.notT hp) hp) (I1.notT hp) (I1.le.fre hp) upd_same hr.reverse⟩)

/-! ### own functions -/
def lift (K : PySem.W.Frag) (sp : List PyData → (PyData → Prop) → Prop) : Sp := fun vs H Q _ => ∃ (R : Hp) (ds : List PyData), Le R H ∧ RpA K R vs ds ∧
  sp ds fun d => ∀ R' v H', Nx none R H R' H' → Le R' H' → Rp K R' v d → Q v H'
/-- a function that is given the town -/
def liftT (K : PySem.W.Frag) (sp : List Sl → Nat → (PyData → Nat → Prop) → Prop) : Sp := fun vs H Q _ => ∃ (R : Hp) (t : Addr) (b : Nat) (ss : List Sl), Le R H ∧ TwE (some t) b R H ∧ Paired (SE K (some t) R) ss vs ∧
  sp ss b fun d b' => ∀ R' v H', Nx (some t) R H R' H' → Le R' H' → TwE (some t) b' R' H' → Rp K R' v d → Q v H'
section
variable {n : Str} {p : Pos} {k : Nat} {f : Addr} {fd : FuncData} {ps : List Str}
theorem ev_call {sp : List PyData → (PyData → Prop) → Prop} (F : FnOk X.prog X.w X.K X.mg X.base CX0 k f fd ps (lift X.K sp)) (hr : Room k X.A) (hm : X.mg n = some (.ref f)) (hk : PySem.W.keepIn X.K (.ref f) = true) (hb : Binds X.K fd ps [])
    (ha : EvA X T (e :: es) S fun ds b => sp ds fun d => κ d b) (hg : Gl X n := by rfl) (hdb : (n == ("__debug__" : Str)) = false := by decide) (he : starEach (e :: es) X.env = (false, eval e X.env) :: starEach es X.env := by rfl) (hpl : (backTo pos (starEach es X.env)).any (·.1) = false := by rfl)
    (mono : ∀ ds (κ κ' : PyData → Prop), (∀ d, κ d → κ' d) → sp ds κ → sp ds κ') : Ev X T (.Call (.Name n p) (e :: es) [] pos) S κ := fun R σ H I Q q =>
  wpE_of (pe_call F hr hg hm hk hb .nil pass0 pa_wp hdb he hpl) (ha R σ H I _ fun R1 vs H1 ds b k1 I1 n1 r1 => by
    show lift X.K sp (vs ++ []) H1 Q E0
    rw [List.append_nil]
    refine ⟨R1, ds, I1.le, r1, mono _ _ _ (fun d kd R' v H' n2 l2 r2 => ?_) k1⟩
    exact q R' v H' d b kd (I1.mono (n2.weak (T := T)) l2 (I1.tw.of n2)) (n1.trans n2.weak) r2)
theorem ev_callT {t : Addr} {sp : List Sl → Nat → (PyData → Nat → Prop) → Prop} (F : FnOk X.prog X.w X.K X.mg X.base CX0 k f fd ps (liftT X.K sp)) (hr : Room k X.A) (hm : X.mg n = some (.ref f)) (hk : PySem.W.keepIn X.K (.ref f) = true) (hb : Binds X.K fd ps [])
    (ha : EvB X (some t) (e :: es) S fun ds b => sp ds b κ) (hg : Gl X n := by rfl) (hdb : (n == ("__debug__" : Str)) = false := by decide) (he : starEach (e :: es) X.env = (false, eval e X.env) :: starEach es X.env := by rfl) (hpl : (backTo pos (starEach es X.env)).any (·.1) = false := by rfl)
    (mono : ∀ ds b (κ κ' : PyData → Nat → Prop), (∀ d b, κ d b → κ' d b) → sp ds b κ → sp ds b κ') : Ev X (some t) (.Call (.Name n p) (e :: es) [] pos) S κ := fun R σ H I Q q =>
  wpE_of (pe_call F hr hg hm hk hb .nil pass0 pa_wp hdb he hpl) (ha R σ H I _ fun R1 vs H1 ds b k1 I1 n1 r1 => by
    show liftT X.K sp (vs ++ []) H1 Q E0
    rw [List.append_nil]
    refine ⟨R1, t, b, ds, I1.le, I1.tw, r1, mono _ _ _ _ (fun d b' kd R' v H' n2 l2 tw2 r2 => ?_) k1⟩
    exact q R' v H' d b' kd (I1.mono n2 l2 tw2) (n1.trans n2) r2)
end
end
end PL
set_option maxHeartbeats 4000000
namespace PL
open PySem PySem.Spec PyProof.Rows L2 RZ
/-! ### chains of comparisons -/
def wpO2 (X : Cx) (f : Value → Value → Sem Value) : R2 := fun x y H Q => ∀ pins s σ v u, Inv X pins σ H s → RelV x v → RelV y u → wpAny (model X.prog X.w) X.A (f v u) (EP X pins σ Q) X.xe s
theorem op_wp {X : Cx} {f : Value → Value → Sem Value} : OpR X f (wpO2 X f) := fun pins s σ H x y v u Q I rx ry h => h pins s σ v u I rx ry
theorem opR_wp {X : Cx} {f : Value → Value → Sem Value} {r : R2} {x y : V} {H : Hp} {Q : VK} (o : OpR X f r) (q : r x y H Q) : wpO2 X f x y H Q := fun pins s σ v u I rx ry => o pins s σ H x y v u Q I rx ry q
section
variable {X : Cx} {T : Option Addr} {S : Sta} {e a b c : Expr} {es rest : List Expr} {pos : Pos} {d x y z : PyData} {κ : PyData → Nat → Prop} {p q r : Bool}
theorem et_chn {op op' : CmpOp} (ha : EvP X T a S x) (hb : EvP X T b S y) (hc : EvP X T c S z) (o : OpD X T (compareOp op) x y (.bool p)) (o' : OpD X T (compareOp op') y z (.bool q)) (hm : lastMarks [op, op'] [b, c] = false := by with_unfolding_all rfl) :
    EvT X T (.Compare a [op, op'] [b, c] pos) S (p && q) := fun R σ H I Q k => by
  refine wpT_of (pt_chain op_wp op_wp pe_wp pe_wp pe_wp hm) ?_
  refine ha R σ H I _ fun R1 v H1 x1 b1 k1 I1 n1 r1 => ?_
  obtain ⟨e1, e2⟩ := k1; subst e1 e2
  refine hb R1 σ H1 I1 _ fun R2 u H2 y1 b2 k2 I2 n2 r2 => ?_
  obtain ⟨e1, e2⟩ := k2; subst e1 e2
  obtain ⟨r, w1, w2⟩ := o S R2 σ H2 v u (fun z H3 => ∃ k, z = .bl k ∧ (if k = true then wpE X c σ H3 fun w' H4 => wpO2 X (compareOp op') u w' H4 (fun x H' => ∃ k, x = .bl k ∧ Q k H') else ∃ k, V.bl false = .bl k ∧ Q k H3)) I2 (r1.le n2.lr) r2 fun R3 c3 H3 I3 n3 r3 => by
    cases r3
    refine ⟨p, rfl, ?_⟩
    cases p with
    | true =>
      refine iteT (hc R3 σ H3 I3 _ fun R4 w H4 z1 b4 k4 I4 n4 r4 => ?_)
      obtain ⟨e1, e2⟩ := k4; subst e1 e2
      obtain ⟨r', w3, w4⟩ := o' S R4 σ H4 u w (fun x H' => ∃ k, x = .bl k ∧ Q k H') I4 (r2.le (n3.lr.trans n4.lr)) r4 fun R5 c5 H5 I5 n5 r5 => by
        cases r5
        exact ⟨q, rfl, k R5 H5 I5 ((((n1.trans n2).trans n3).trans n4).trans n5)⟩
      exact opR_wp w3 w4
    | false => exact iteF ⟨false, rfl, k R3 H3 I3 ((n1.trans n2).trans n3)⟩
  exact opR_wp w1 w2

/-! ### what is walked -/
structure Walk (K : PySem.W.Frag) (J : It) (R : Hp) (xs : List PyData) : Prop where
  stop : ∀ i H, Le R H → xs.length ≤ i → J.stop i H
  go : ∀ (i : Nat) H x, Le R H → xs[i]? = some x → J.go i H ∧ ∀ v H', J.yld i H v H' → (H' = H ∧ Rp K R v x) ∨ ∃ (p : Addr) (vs : List V) (ds : List PyData), v = .ref p ∧ H p = none ∧ H' = upd H p (.tup vs) ∧ x = .tuple ds ∧ RpA K R vs ds
def EvI (X : Cx) (T : Option Addr) (tg e : Expr) (S : Sta) (κ : List PyData → Nat → Prop) : Prop := ∃ wi, PI X tg e wi ∧ ∀ (R : Hp) (σ : L2.St) (H : Hp), HE X.K T S R σ H → ∀ Q : It → Hp → Prop,
  (∀ (J : It) (R' : Hp) (H' : Hp) (xs : List PyData) (b : Nat), κ xs b → HE X.K T ⟨b, S.sl⟩ R' σ H' → Nx T R H R' H' → Walk X.K J R' xs → Q J H') → wi σ H Q
abbrev EvIP (X : Cx) (T : Option Addr) (tg e : Expr) (S : Sta) (xs : List PyData) : Prop := EvI X T tg e S fun ys b => ys = xs ∧ b = S.b
variable {tg : Expr}
theorem EvI.imp {κ κ' : List PyData → Nat → Prop} (h : EvI X T tg e S κ) (k : ∀ xs b, κ xs b → κ' xs b) : EvI X T tg e S κ' := by
  obtain ⟨wi, h1, h2⟩ := h
  exact ⟨wi, h1, fun R σ H I Q q => h2 R σ H I Q fun J R' H' xs b c => q J R' H' xs b (k _ _ c)⟩
theorem walk_list {K : PySem.W.Frag} {R : Hp} {p : Addr} {vs : List V} {ds : List PyData} (h : R p = some (.lst vs)) (r : RpA K R vs ds) : Walk K (Itl K p) R ds where
  stop := fun i H le hi => ⟨vs, SqL.of (le _ _ h), by rw [r.length]; exact hi⟩
  go := fun i H x le hx => by
    obtain ⟨v, e1, rv⟩ := r.get hx
    refine ⟨⟨vs, v, SqL.of (le _ _ h), e1⟩, fun u H' ⟨e2, hy⟩ => .inl ⟨e2, ?_⟩⟩
    have e3 := hy vs (SqL.of (le _ _ h))
    rw [e1] at e3
    cases e3
    exact rv
theorem walk_tup {K : PySem.W.Frag} {R : Hp} {p : Addr} {vs : List V} {ds : List PyData} (h : SqT K R p vs) (r : RpA K R vs ds) : Walk K (Itt K p) R ds where
  stop := fun i H le hi => ⟨vs, le_t le h, by rw [r.length]; exact hi⟩
  go := fun i H x le hx => by
    obtain ⟨v, e1, rv⟩ := r.get hx
    refine ⟨⟨vs, v, le_t le h, e1⟩, fun u H' ⟨e2, hy⟩ => .inl ⟨e2, ?_⟩⟩
    have e3 := hy vs (le_t le h)
    rw [e1] at e3
    cases e3
    exact rv
/-- over a list, a tuple -/
theorem ei_list {κ : List PyData → Nat → Prop} (h : Ev X T e S fun d b => ∃ ds, d = .list ds ∧ κ ds b) : EvI X T tg e S κ :=
  ⟨_, pi_list pe_wp, fun R σ H I Q q => h R σ H I _ fun R1 v H1 d b ⟨ds, e1, k1⟩ I1 n1 r1 => by
    subst e1
    cases r1 with
    | @lst p vs _ hq hr => exact ⟨p, rfl, ⟨vs, SqL.of (I1.le _ _ hq)⟩, q _ R1 H1 ds b k1 I1 n1 (walk_list hq hr)⟩⟩
theorem ei_tup {κ : List PyData → Nat → Prop} (h : Ev X T e S fun d b => ∃ ds, d = .tuple ds ∧ κ ds b) : EvI X T tg e S κ :=
  ⟨_, pi_tup pe_wp, fun R σ H I Q q => h R σ H I _ fun R1 v H1 d b ⟨ds, e1, k1⟩ I1 n1 r1 => by
    subst e1
    cases r1 with
    | @tup p vs _ hq hr => exact ⟨p, rfl, ⟨vs, le_t I1.le hq⟩, q _ R1 H1 ds b k1 I1 n1 (walk_tup hq hr)⟩⟩
theorem eip_list {ds : List PyData} (h : EvP X T e S (.list ds)) : EvIP X T tg e S ds := ei_list (Ev.k h ⟨ds, rfl, rfl, rfl⟩)
theorem eip_tup {ds : List PyData} (h : EvP X T e S (.tuple ds)) : EvIP X T tg e S ds := ei_tup (Ev.k h ⟨ds, rfl, rfl, rfl⟩)
theorem eip_new {ds : List PyData} (h : EvNP X T e S ds) : EvIP X T tg e S ds := ei_list (Ev.ofN h fun ds' b ⟨e1, e2⟩ => ⟨ds', rfl, e1, e2⟩)
theorem ei_new {κ : List PyData → Nat → Prop} (h : EvN X T e S κ) : EvI X T tg e S κ := ei_list (Ev.ofN h fun ds' b k => ⟨ds', rfl, k⟩)
def rgD (lo : Int) (n : Nat) : List PyData := (List.range n).map fun (i : Nat) => .int (lo + (i : Int))
theorem rgD_length (lo : Int) (n : Nat) : (rgD lo n).length = n := by unfold rgD; rw [List.length_map, List.length_range]
theorem rgD_get {lo : Int} {n i : Nat} {x : PyData} (h : (rgD lo n)[i]? = some x) : i < n ∧ x = .int (lo + (i : Int)) := by
  unfold rgD at h
  rw [List.getElem?_map] at h
  by_cases hi : i < n
  · rw [List.getElem?_range hi] at h
    exact ⟨hi, (Option.some.inj h).symm⟩
  · rw [List.getElem?_eq_none (by rw [List.length_range]; omega)] at h; cases h
theorem walk_rng {K : PySem.W.Frag} {R : Hp} {lo : Int} {n : Nat} : Walk K (Itr lo n) R (rgD lo n) where
  stop := fun i H _ hi => by rw [rgD_length] at hi; exact hi
  go := fun i H x _ hx => by
    obtain ⟨hi, e1⟩ := rgD_get hx
    subst e1
    exact ⟨hi, fun v H' ⟨e2, e3⟩ => .inl ⟨e2, by subst e3; exact .int _⟩⟩
section
variable {p : Pos}
theorem ei_rng1 {κ : List PyData → Nat → Prop} (h : Ev X T a S fun d b => ∃ n : Int, d = .int n ∧ -(2 ^ 62) ≤ n ∧ n < 2 ^ 62 ∧ κ (rgD 0 n.toNat) b) (hm : X.mg "range" = none) (hg : Gl X "range" := by rfl) (hs : starEach [a] X.env = [(false, eval a X.env)] := by rfl) :
    EvI X T tg (.Call (.Name "range" p) [a] [] pos) S κ :=
  ⟨_, pi_range1 hg hm (pa_cons pe_wp pa_nil hs) hs, fun R σ H I Q q => h R σ H I _ fun R1 v H1 d b ⟨n, e1, h1, h2, k1⟩ I1 n1 r1 => by
    subst e1
    cases r1
    exact ⟨n, rfl, h1, h2, q _ R1 H1 _ b k1 I1 n1 walk_rng⟩⟩
theorem eip_rng1 {n : Int} (h : EvP X T a S (.int n)) (hn : n < 2 ^ 62) (hm : X.mg "range" = none) (h0 : -(2 ^ 62) ≤ n := by omega) (hg : Gl X "range" := by rfl) (hs : starEach [a] X.env = [(false, eval a X.env)] := by rfl) :
    EvIP X T tg (.Call (.Name "range" p) [a] [] pos) S (rgD 0 n.toNat) := ei_rng1 (Ev.k h ⟨n, rfl, h0, hn, rfl, rfl⟩) hm hg hs
theorem eip_rng2 {m n : Int} (h : EvP X T a S (.int m)) (h' : EvP X T b S (.int n)) (hn : -(2 ^ 62) ≤ m ∧ m < 2 ^ 62 ∧ -(2 ^ 62) ≤ n ∧ n < 2 ^ 62) (hm : X.mg "range" = none) (hg : Gl X "range" := by rfl)
    (hs : starEach [a, b] X.env = [(false, eval a X.env), (false, eval b X.env)] := by rfl) (hs2 : starEach [b] X.env = [(false, eval b X.env)] := by rfl) : EvIP X T tg (.Call (.Name "range" p) [a, b] [] pos) S (rgD m (n - m).toNat) :=
  ⟨_, pi_range2 hg hm (pa_cons pe_wp (pa_cons pe_wp pa_nil hs2) (by rw [hs, hs2])) hs hs2, fun R σ H I Q q => h R σ H I _ fun R1 v H1 d b ⟨e1, e2⟩ I1 n1 r1 => by
    subst e1 e2
    refine h' R1 σ H1 I1 _ fun R2 u H2 d2 b2 ⟨e1, e2⟩ I2 n2 r2 => ?_
    subst e1 e2
    cases r1; cases r2
    exact ⟨m, n, rfl, hn, q _ R2 H2 _ _ ⟨rfl, rfl⟩ I2 (n1.trans n2) walk_rng⟩⟩
/-- downwards by ones -/
def rdD (lo : Int) (n : Nat) : List PyData := (List.range n).map fun (i : Nat) => .int (lo - (i : Int))
theorem walk_rdn {K : PySem.W.Frag} {R : Hp} {lo : Int} {n : Nat} : Walk K (Itc lo (-1) n) R (rdD lo n) where
  stop := fun i H _ hi => by
    unfold rdD at hi; rw [List.length_map, List.length_range] at hi; exact hi
  go := fun i H x _ hx => by
    unfold rdD at hx
    rw [List.getElem?_map] at hx
    by_cases hi : i < n
    · rw [List.getElem?_range hi] at hx
      refine ⟨hi, fun v H' ⟨e2, e3⟩ => .inl ⟨e2, ?_⟩⟩
      have e4 : PyData.int (lo - (i : Int)) = x := Option.some.inj hx
      have e5 : lo + (i : Int) * (-1) = lo - (i : Int) := by omega
      rw [e5] at e3
      subst e3 e4
      exact .int _
    · rw [List.getElem?_eq_none (by rw [List.length_range]; omega)] at hx; cases hx
theorem eip_rngD {m n : Int} (h : EvP X T a S (.int m)) (h' : EvP X T b S (.int n)) (h'' : EvP X T c S (.int (-1))) (hn : -(2 ^ 62) ≤ m ∧ m < 2 ^ 62 ∧ -(2 ^ 62) ≤ n ∧ n < 2 ^ 62) (hm : X.mg "range" = none) (hg : Gl X "range" := by rfl)
    (hs : starEach [a, b, c] X.env = (false, eval a X.env) :: starEach [b, c] X.env := by rfl) (hs2 : starEach [b, c] X.env = (false, eval b X.env) :: starEach [c] X.env := by rfl) (hs3 : starEach [c] X.env = (false, eval c X.env) :: starEach [] X.env := by rfl)
    (hpl : (backTo pos (starEach [b, c] X.env)).any (·.1) = false := by rfl) : EvIP X T tg (.Call (.Name "range" p) [a, b, c] [] pos) S (rdD m (m - n).toNat) :=
  ⟨_, pi_range3 hg hm (pa_cons pe_wp (pa_cons pe_wp (pa_cons pe_wp pa_nil hs3) hs2) hs) hs hpl, fun R σ H I Q q => h R σ H I _ fun R1 v H1 d b ⟨e1, e2⟩ I1 n1 r1 => by
    subst e1 e2
    refine h' R1 σ H1 I1 _ fun R2 u H2 d2 b2 ⟨e1, e2⟩ I2 n2 r2 => ?_
    subst e1 e2
    refine h'' R2 σ H2 I2 _ fun R3 w H3 d3 b3 ⟨e1, e2⟩ I3 n3 r3 => ?_
    subst e1 e2
    cases r1; cases r2; cases r3
    exact ⟨m, n, -1, (m - n).toNat, rfl, RgC.neg hn.1 hn.2.1 hn.2.2.1 hn.2.2.2, q _ R3 H3 _ _ ⟨rfl, rfl⟩ I3 ((n1.trans n2).trans n3) walk_rdn⟩⟩
/-- zip of two tuples, of two lists -/
def zipD (xs ys : List PyData) : List PyData := List.zipWith (fun x y => .tuple [x, y]) xs ys
theorem zipD_get {xs ys : List PyData} {i : Nat} {z : PyData} (h : (zipD xs ys)[i]? = some z) : ∃ x y, xs[i]? = some x ∧ ys[i]? = some y ∧ z = .tuple [x, y] := by
  unfold zipD at h
  rw [List.getElem?_zipWith] at h
  cases w : xs[i]? with
  | none => rw [w] at h; cases h
  | some x =>
    cases w2 : ys[i]? with
    | none => rw [w, w2] at h; cases h
    | some y => rw [w, w2] at h; exact ⟨x, y, rfl, rfl, (Option.some.inj h).symm⟩
theorem zipD_len {xs ys : List PyData} {i : Nat} (h : (zipD xs ys).length ≤ i) : xs.length ≤ i ∨ ys.length ≤ i := by
  unfold zipD at h
  rw [List.length_zipWith] at h
  omega
variable {elts : List Expr} {kk : Nat} {tpos : Pos}
theorem walk_zipT {K : PySem.W.Frag} {R : Hp} {p q : Addr} {vs us : List V} {xs ys : List PyData} (h : SqT K R p vs) (h' : SqT K R q us) (r : RpA K R vs xs) (r' : RpA K R us ys) : Walk K (ItzT K p q) R (zipD xs ys) where
  stop := fun i H le hi => ⟨vs, us, le_t le h, le_t le h', by rw [r.length, r'.length]; exact zipD_len hi⟩
  go := fun i H x le hx => by
    obtain ⟨x1, y1, e1, e2, e3⟩ := zipD_get hx
    obtain ⟨v, f1, rv⟩ := r.get e1
    obtain ⟨u, f2, ru⟩ := r'.get e2
    refine ⟨⟨vs, us, v, u, le_t le h, le_t le h', f1, f2⟩, fun w H' hy => .inr ?_⟩
    obtain ⟨t, x2, y2, g1, g2, g3, g4, g5⟩ := hy
    have h1 := g4 vs (le_t le h)
    have h2 := g5 us (le_t le h')
    rw [f1] at h1; rw [f2] at h2
    cases h1; cases h2
    exact ⟨t, [v, u], [x1, y1], g1, g2, g3, e3, .cons rv (.cons ru .nil)⟩
theorem walk_zipL {K : PySem.W.Frag} {R : Hp} {p q : Addr} {vs us : List V} {xs ys : List PyData} (h : R p = some (.lst vs)) (h' : R q = some (.lst us)) (r : RpA K R vs xs) (r' : RpA K R us ys) : Walk K (Itz K p q) R (zipD xs ys) where
  stop := fun i H le hi => ⟨vs, us, SqL.of (le _ _ h), SqL.of (le _ _ h'), by rw [r.length, r'.length]; exact zipD_len hi⟩
  go := fun i H x le hx => by
    obtain ⟨x1, y1, e1, e2, e3⟩ := zipD_get hx
    obtain ⟨v, f1, rv⟩ := r.get e1
    obtain ⟨u, f2, ru⟩ := r'.get e2
    refine ⟨⟨vs, us, v, u, SqL.of (le _ _ h), SqL.of (le _ _ h'), f1, f2⟩, fun w H' hy => .inr ?_⟩
    obtain ⟨t, x2, y2, g1, g2, g3, g4, g5⟩ := hy
    have h1 := g4 vs (SqL.of (le _ _ h))
    have h2 := g5 us (SqL.of (le _ _ h'))
    rw [f1] at h1; rw [f2] at h2
    cases h1; cases h2
    exact ⟨t, [v, u], [x1, y1], g1, g2, g3, e3, .cons rv (.cons ru .nil)⟩
theorem eip_zip {xs ys : List PyData} (h : (EvP X T a S (.tuple xs) ∧ EvP X T b S (.tuple ys)) ∨ (EvP X T a S (.list xs) ∧ EvP X T b S (.list ys))) (hm : X.mg "zip" = none) (hg : Gl X "zip" := by rfl)
    (hs : starEach [a, b] X.env = (false, eval a X.env) :: starEach [b] X.env := by rfl) (hs2 : starEach [b] X.env = (false, eval b X.env) :: starEach [] X.env := by rfl) (hpl : (backTo pos (starEach [b] X.env)).any (·.1) = false := by rfl) :
    EvIP X T (.Tuple elts kk tpos) (.Call (.Name "zip" p) [a, b] [] pos) S (zipD xs ys) :=
  ⟨_, pi_zipA hg hm (pa_cons pe_wp (pa_cons pe_wp pa_nil hs2) hs) hs hpl, fun R σ H I Q q => by
    rcases h with ⟨h, h'⟩ | ⟨h, h'⟩
    · refine h R σ H I _ fun R1 v H1 d b ⟨e1, e2⟩ I1 n1 r1 => ?_
      subst e1 e2
      refine h' R1 σ H1 I1 _ fun R2 u H2 d2 b2 ⟨e1, e2⟩ I2 n2 r2 => ?_
      subst e1 e2
      cases r1.le n2.lr with
      | @tup p1 vs _ hq hr =>
        cases r2 with
        | @tup p2 us _ hq2 hr2 =>
          exact ⟨p1, p2, vs, us, rfl, .inr ⟨le_t I2.le hq, le_t I2.le hq2, q _ R2 H2 _ _ ⟨rfl, rfl⟩ I2 (n1.trans n2) (walk_zipT hq hq2 hr hr2)⟩⟩
    · refine h R σ H I _ fun R1 v H1 d b ⟨e1, e2⟩ I1 n1 r1 => ?_
      subst e1 e2
      refine h' R1 σ H1 I1 _ fun R2 u H2 d2 b2 ⟨e1, e2⟩ I2 n2 r2 => ?_
      subst e1 e2
      cases r1.le n2.lr with
      | @lst p1 vs _ hq hr =>
        cases r2 with
        | @lst p2 us _ hq2 hr2 =>
          exact ⟨p1, p2, vs, us, rfl, .inl ⟨SqL.of (I2.le _ _ hq), SqL.of (I2.le _ _ hq2), q _ R2 H2 _ _ ⟨rfl, rfl⟩ I2 (n1.trans n2) (walk_zipL hq hq2 hr hr2)⟩⟩⟩
/-- enumerate of a list -/
def enumD (i : Nat) : List PyData → List PyData
  | [] => []
  | x :: r => .tuple [.int (i : Int), x] :: enumD (i + 1) r
theorem enumD_len : ∀ (xs : List PyData) (i : Nat), (enumD i xs).length = xs.length
  | [], _ => rfl
  | x :: r, i => by show (enumD (i + 1) r).length + 1 = r.length + 1; rw [enumD_len r]
theorem enumD_get : ∀ {xs : List PyData} {k i : Nat} {z : PyData}, (enumD k xs)[i]? = some z → ∃ x, xs[i]? = some x ∧ z = .tuple [.int ((k + i : Nat) : Int), x]
  | [], _, _, _, h => by simp [enumD] at h
  | x :: r, k, 0, z, h => ⟨x, rfl, (Option.some.inj h).symm⟩
  | x :: r, k, i + 1, z, h => by
    obtain ⟨y, e1, e2⟩ := enumD_get (xs := r) (k := k + 1) (i := i) h
    exact ⟨y, e1, by rw [e2]; congr 3; omega⟩
theorem walk_enum {K : PySem.W.Frag} {R : Hp} {p : Addr} {vs : List V} {xs : List PyData} (h : R p = some (.lst vs)) (r : RpA K R vs xs) : Walk K (Ite K p) R (enumD 0 xs) where
  stop := fun i H le hi => ⟨vs, SqL.of (le _ _ h), by rw [r.length]; rw [enumD_len] at hi; exact hi⟩
  go := fun i H x le hx => by
    obtain ⟨x1, e1, e3⟩ := enumD_get hx
    obtain ⟨v, f1, rv⟩ := r.get e1
    refine ⟨⟨vs, v, SqL.of (le _ _ h), f1⟩, fun w H' hy => .inr ?_⟩
    obtain ⟨t, x2, g1, g2, g3, g4⟩ := hy
    have h1 := g4 vs (SqL.of (le _ _ h))
    rw [f1] at h1
    cases h1
    rw [Nat.zero_add] at e3
    exact ⟨t, _, [.int (i : Nat), x1], g1, g2, g3, e3, .cons (.int _) (.cons rv .nil)⟩
theorem eip_enum {xs : List PyData} (h : EvP X T a S (.list xs)) (hm : X.mg "enumerate" = none) (hg : Gl X "enumerate" := by rfl)
    (hs : starEach [a] X.env = [(false, eval a X.env)] := by rfl) :
    EvIP X T (.Tuple elts kk tpos) (.Call (.Name "enumerate" p) [a] [] pos) S (enumD 0 xs) :=
  ⟨_, pi_enum hg hm (pa_cons pe_wp pa_nil hs) hs, fun R σ H I Q q => by
    refine h R σ H I _ fun R1 v H1 d b ⟨e1, e2⟩ I1 n1 r1 => ?_
    subst e1 e2
    cases r1 with
    | @lst p1 vs _ hq hr => exact ⟨p1, vs, rfl, SqL.of (I1.le _ _ hq), q _ R1 H1 _ _ ⟨rfl, rfl⟩ I1 n1 (walk_enum hq hr)⟩⟩
end
/-- a text, sign by sign -/
def sgD (w : Str) : List PyData := w.cps.toList.map fun c => .str ⟨#[c]⟩
theorem walk_str {K : PySem.W.Frag} {R : Hp} {w : Str} : Walk K (Its w) R (sgD w) where
  stop := fun i H _ hi => by unfold sgD at hi; rw [List.length_map, Array.length_toList] at hi; exact hi
  go := fun i H x _ hx => by
    unfold sgD at hx
    rw [List.getElem?_map] at hx
    cases w1 : w.cps.toList[i]? with
    | none => rw [w1] at hx; cases hx
    | some cc =>
      rw [w1] at hx
      have e1 : PyData.str ⟨#[cc]⟩ = x := Option.some.inj hx
      have hi : i < w.cps.size := by
        have := (List.getElem?_eq_some_iff.mp w1).1
        rw [Array.length_toList] at this
        exact this
      refine ⟨hi, fun v H' ⟨e2, c', e3, e4⟩ => .inl ⟨e2, ?_⟩⟩
      have e5 : w.cps.toList[i]? = some c' := by rw [Array.getElem?_toList]; exact e3
      rw [w1] at e5
      cases e5
      subst e4 e1
      exact .str _
theorem eip_str {w : Str} (h : EvP X T e S (.str w)) : EvIP X T tg e S (sgD w) :=
  ⟨_, pi_str pe_wp, fun R σ H I Q q => h R σ H I _ fun R1 v H1 d b ⟨e1, e2⟩ I1 n1 r1 => by
    subst e1 e2
    cases r1
    exact ⟨w, rfl, q _ R1 H1 _ _ ⟨rfl, rfl⟩ I1 n1 walk_str⟩⟩

/-! ### targets -/
def setV (σ : L2.St) : List Nat → List V → L2.St
  | i :: is, v :: vs => setV (σ.set i (some v)) is vs
  | _, _ => σ
def setD (sl : Sls) : List (Nat × PyData) → Sls
  | [] => sl
  | p :: r => setD (sl.set p.1 (some (.dat p.2))) r
theorem setV_len : ∀ (is : List Nat) (vs : List V) (σ : L2.St), (setV σ is vs).length = σ.length
  | [], _, _ => by unfold setV; rfl
  | i :: is, [], σ => rfl
  | i :: is, v :: vs, σ => by show (setV (σ.set i (some v)) is vs).length = _; rw [setV_len is vs, List.length_set]
theorem setD_len : ∀ (ps : List (Nat × PyData)) (sl : Sls), (setD sl ps).length = sl.length
  | [], _ => rfl
  | p :: r, sl => by show (setD (sl.set p.1 _) r).length = _; rw [setD_len r, List.length_set]
/-- the target takes x apart -/
def GS (K : PySem.W.Frag) (g : TG) (x : PyData) (ps : List (Nat × PyData)) : Prop := ∀ (R : Hp) (σ : L2.St) (H : Hp) (v : V) (Q : L2.St → Hp → Prop), Le R H → Rp K R v x →
  (∀ vs, RpA K R vs (ps.map (·.2)) → Q (setV σ (ps.map (·.1)) vs) H) → g v σ H Q
theorem gs_name {K : PySem.W.Frag} {i : Nat} {x : PyData} : GS K (gName i) x [(i, x)] := fun R σ H v Q le r q => q [v] (.cons r .nil)
theorem gs_tup2 {K : PySem.W.Frag} {i j : Nat} {x y : PyData} : GS K (gTup K 2 (gCons (gName i) (gCons (gName j) gNil))) (.tuple [x, y]) [(i, x), (j, y)] := fun R σ H v Q le r q => by
  cases r with
  | @tup p vs _ hq hr =>
    cases hr with
    | cons r1 r2 =>
      cases r2 with
      | cons r2 r3 =>
        cases r3
        exact ⟨p, _, rfl, le_t le hq, rfl, _, _, rfl, _, _, rfl, rfl, q [_, _] (.cons r1 (.cons r2 .nil))⟩
theorem gs_tup3 {K : PySem.W.Frag} {i j l : Nat} {x y z : PyData} : GS K (gTup K 3 (gCons (gName i) (gCons (gName j) (gCons (gName l) gNil)))) (.tuple [x, y, z]) [(i, x), (j, y), (l, z)] := fun R σ H v Q le r q => by
  cases r with
  | @tup p vs _ hq hr =>
    cases hr with
    | cons r1 r2 =>
      cases r2 with
      | cons r2 r3 =>
        cases r3 with
        | cons r3 r4 =>
          cases r4
          exact ⟨p, _, rfl, le_t le hq, rfl, _, _, rfl, _, _, rfl, _, _, rfl, rfl, q [_, _, _] (.cons r1 (.cons r2 (.cons r3 .nil)))⟩
theorem HE.set {K : PySem.W.Frag} {T : Option Addr} {b : Nat} {sl : Sls} {R : Hp} {σ : L2.St} {H : Hp} {i : Nat} {v : V} {d : PyData} (I : HE K T ⟨b, sl⟩ R σ H) (r : Rp K R v d) : HE K T ⟨b, sl.set i (some (.dat d))⟩ R (σ.set i (some v)) H := by
  have hl : sl.length ≤ σ.length := I.len
  refine ⟨I.le, I.tw, by rw [List.length_set, List.length_set]; exact hl, fun j s e => ?_⟩
  have e' : (sl.set i (some (.dat d)))[j]? = some (some s) := e
  by_cases hj : j = i
  · subst hj
    by_cases hk : j < sl.length
    · rw [List.getElem?_set_self hk] at e'
      have e2 : Sl.dat d = s := Option.some.inj (Option.some.inj e')
      subst e2
      exact ⟨v, by rw [List.getElem?_set_self (by omega)], r⟩
    · rw [List.getElem?_eq_none (by rw [List.length_set]; omega)] at e'; cases e'
  · rw [List.getElem?_set_ne (Ne.symm hj)] at e'
    obtain ⟨w, f1, f2⟩ := I.sl j s e'
    exact ⟨w, by rw [List.getElem?_set_ne (Ne.symm hj)]; exact f1, f2⟩
theorem HE.setAll {K : PySem.W.Frag} {T : Option Addr} {b : Nat} {R : Hp} {H : Hp} : ∀ (ps : List (Nat × PyData)) {vs : List V} {sl : Sls} {σ : L2.St}, HE K T ⟨b, sl⟩ R σ H → RpA K R vs (ps.map (·.2)) → HE K T ⟨b, setD sl ps⟩ R (setV σ (ps.map (·.1)) vs) H
  | [], vs, sl, σ, I, r => by cases r; exact I
  | p :: ps, vs, sl, σ, I, r => by
    cases r with
    | cons r1 r2 => exact HE.setAll ps (I.set (i := p.1) r1) r2

/-! ### comprehensions -/
def wipeS (sl : Sls) : List Nat → Sls
  | [] => sl
  | v :: vs => (wipeS sl vs).set v none
theorem wipeS_len (sl : Sls) : ∀ vs, (wipeS sl vs).length = sl.length
  | [] => rfl
  | v :: vs => by unfold wipeS; rw [List.length_set, wipeS_len sl vs]
theorem wipeS_get {sl : Sls} {j : Nat} {s : Sl} : ∀ {vs : List Nat}, (wipeS sl vs)[j]? = some (some s) → sl[j]? = some (some s) ∧ j ∉ vs
  | [], h => ⟨h, by simp⟩
  | v :: vs, h => by
    unfold wipeS at h
    by_cases hi : v = j
    · subst hi
      by_cases hv : v < (wipeS sl vs).length
      · rw [List.getElem?_set_self hv] at h; cases h
      · rw [List.getElem?_eq_none (by simpa using hv)] at h; cases h
    · rw [List.getElem?_set_ne hi] at h
      obtain ⟨h1, h2⟩ := wipeS_get h
      exact ⟨h1, by simp only [List.mem_cons, not_or]; exact ⟨fun e => hi e.symm, h2⟩⟩
theorem HE.wiped {K : PySem.W.Frag} {T : Option Addr} {b : Nat} {sl : Sls} {R : Hp} {σ : L2.St} {H : Hp} (I : HE K T ⟨b, sl⟩ R σ H) (vs : List Nat) : HE K T ⟨b, wipeS sl vs⟩ R (wipe σ vs) H := by
  refine ⟨I.le, I.tw, by show (wipeS sl vs).length ≤ _; rw [wipeS_len, wipe_length]; exact I.len, fun j s e => ?_⟩
  obtain ⟨e1, e2⟩ := wipeS_get (show (wipeS sl vs)[j]? = some (some s) from e)
  obtain ⟨v, f1, f2⟩ := I.sl j s e1
  refine ⟨v, ?_, f2⟩
  rw [wipe_out e2]; exact f1
theorem wipe_set_in {σ : L2.St} {j : Nat} {x : Option V} : ∀ {vs : List Nat}, j ∈ vs → wipe (σ.set j x) vs = wipe σ vs
  | [], h => by cases h
  | v :: vs, h => by
    show (wipe (σ.set j x) vs).set v none = (wipe σ vs).set v none
    by_cases hj : j ∈ vs
    · rw [wipe_set_in hj]
    · have hv : j = v := by
        rcases List.mem_cons.mp h with e | e
        · exact e
        · exact absurd e hj
      subst hv
      have : wipe (σ.set j x) vs = (wipe σ vs).set j x := by
        clear h
        induction vs with
        | nil => rfl
        | cons u us ih =>
          have h1 : j ∉ us := fun z => hj (List.mem_cons_of_mem _ z)
          have h2 : j ≠ u := fun z => hj (by rw [z]; exact List.mem_cons_self)
          show (wipe (σ.set j x) us).set u none = ((wipe σ us).set u none).set j x
          rw [ih h1, List.set_comm _ _ h2]
      rw [this, List.set_set]
theorem wipe_wipe {σ : L2.St} : ∀ {us vs : List Nat}, (∀ u ∈ us, u ∈ vs) → wipe (wipe σ us) vs = wipe σ vs
  | [], _, _ => rfl
  | u :: us, vs, h => by
    show wipe ((wipe σ us).set u none) vs = wipe σ vs
    rw [wipe_set_in (h u List.mem_cons_self), wipe_wipe fun w hw => h w (List.mem_cons_of_mem _ hw)]
theorem wipe_setV : ∀ {is vs : List Nat} {ws : List V} {σ : L2.St}, (∀ i ∈ is, i ∈ vs) → wipe (setV σ is ws) vs = wipe σ vs
  | [], _, _, _, _ => by unfold setV; rfl
  | i :: is, vs, [], σ, h => rfl
  | i :: is, vs, w :: ws, σ, h => by
    show wipe (setV (σ.set i (some w)) is ws) vs = wipe σ vs
    rw [wipe_setV (fun j hj => h j (List.mem_cons_of_mem _ hj)), wipe_set_in (h i List.mem_cons_self)]
/-- a clause's tests -/
def EvTs (X : Cx) (T : Option Addr) : List Expr → Sta → Bool → Prop
  | [], _, c => c = true
  | [e], S, c => EvT X T e S c
  | _, _, _ => False
def wpTs (X : Cx) (ifs : List Expr) : TT := fun σ H Q => ∀ pins s, Inv X pins σ H s →
    wpAny (model X.prog X.w) X.A (forIn ifs true fun c r => if r = true then do let ok ← isTrue c X.env (eval c X.env); pure (ForInStep.yield ok) else pure (ForInStep.yield r)) (TP X pins σ Q) X.xe s
theorem wpTs_of {ifs : List Expr} (h : EvTs X T ifs S p) {R : Hp} {σ : L2.St} {H : Hp} (I : HE X.K T S R σ H) {Q : Bool → Hp → Prop} (k : ∀ (R' H' : Hp), HE X.K T S R' σ H' → Nx T R H R' H' → Q p H') : wpTs X ifs σ H Q := fun pins s J => by
  match ifs, h with
  | [], h =>
    have h' : p = true := h
    subst h'
    exact pts_nil.run pins s σ H Q J (k R H I Nx.refl)
  | [e], h => exact (pts_one pt_wp).run pins s σ H Q J (h R σ H I Q k)
section
variable {elt iter : Expr} {ifs : List Expr} {scope : Scope} {own : List (Str × Nat)} {g : TG}
abbrev ForBlk (X : Cx) (scope : Scope) (f : Cx → Prop) : Prop := ∀ (s : Shared) (H : Hp) (C : Addr) (cl : List (Str × Addr)) (fp : List Addr), f (X.blk s H scope (compEnvC scope cl C X.env) fp)
theorem lc_read {κi κ : List PyData → Nat → Prop} {wi : TI} (hwi : ∀ (R : Hp) (σ : L2.St) (H : Hp), HE X.K T S R σ H → ∀ Q : It → Hp → Prop, (∀ (J : It) (R' : Hp) (H' : Hp) (xs : List PyData) (b : Nat), κi xs b → HE X.K T ⟨b, S.sl⟩ R' σ H' → Nx T R H R' H' → Walk X.K J R' xs → Q J H') → wi σ H Q)
    (h : ∀ xs b, κi xs b → ∃ Pv : Nat → List PyData → Nat → Prop, Pv 0 [] b ∧ xs.length ≤ sizeLine ∧ (∀ i x acc b1, xs[i]? = some x → Pv i acc b1 → ∃ ps : List (Nat × PyData), (∀ p ∈ ps, p.1 ∈ own.map (·.2)) ∧ GS X.K g x ps ∧
      ∃ c, ForBlk X scope (fun Y => EvTs Y T ifs ⟨b1, setD (wipeS S.sl (own.map (·.2))) ps⟩ c) ∧ (c = true → ForBlk X scope fun Y => Ev Y T elt ⟨b1, setD (wipeS S.sl (own.map (·.2))) ps⟩ fun y b2 => Pv (i + 1) (acc ++ [y]) b2) ∧ (c = false → Pv (i + 1) acc b1)) ∧ (∀ acc b1, Pv xs.length acc b1 → κ acc b1))
    {R : Hp} {σ : L2.St} {H : Hp} (I : HE X.K T S R σ H) {Q : VK} (q : ∀ (R' : Hp) (p : Addr) (xs : List V) (H' : Hp) (ds : List PyData) (b : Nat), κ ds b → HE X.K T ⟨b, S.sl⟩ R' σ H' → Nx T R H R' H' → H p = none → T ≠ some p → R' p = none → H' p = some (.lst xs) → RpA X.K R' xs ds → Q (.ref p) H') :
    tLc wi g (fun σ H Q => ForBlk X scope fun Y => wpTs Y ifs σ H Q) (fun σ H Q => ForBlk X scope fun Y => wpE Y elt σ H Q) (own.map (·.2)) σ H Q := by
  refine hwi R σ H I _ fun J R1 H1 xs b k1 I1 n1 W D hD => ?_
  obtain ⟨Pv, p0, hz, step, fin⟩ := h xs b k1
  have ntD : T ≠ some D := I1.notT hD
  have h0 : H D = none := fresh_of n1 ntD hD
  refine ⟨fun i m H' => m = xs.length - i ∧ i ≤ xs.length ∧ ∃ (R' : Hp) (acc : List PyData) (b1 : Nat) (vs : List V), Pv i acc b1 ∧ acc.length ≤ i ∧ HE X.K T ⟨b1, S.sl⟩ R' σ H' ∧ Nx T R1 H1 R' H' ∧ R' D = none ∧ H' D = some (.lst vs) ∧ RpA X.K R' vs acc,
    ⟨xs.length, rfl, Nat.zero_le _, R1, [], b, [], p0, Nat.le_refl _, I1.laid hD, Nx.laid hD, I1.le.fre hD, upd_same, .nil⟩, ?_⟩
  rintro i m H' ⟨rfl, hi, R', acc, b1, vs, pv, la, I', n', hR, hH, ra⟩
  by_cases hlt : i < xs.length
  · have hx : xs[i]? = some xs[i] := List.getElem?_eq_getElem hlt
    obtain ⟨ps, hown, hgs, c, ht, hc1, hc0⟩ := step i xs[i] acc b1 hx pv
    obtain ⟨hgo, hy⟩ := W.go i H' xs[i] (n'.lr.trans I'.le) hx
    refine .inr ⟨hgo, fun H'' => ∃ (R' : Hp) (acc : List PyData) (b1 : Nat) (vs : List V), Pv (i + 1) acc b1 ∧ acc.length ≤ i + 1 ∧ HE X.K T ⟨b1, S.sl⟩ R' σ H'' ∧ Nx T R1 H1 R' H'' ∧ R' D = none ∧ H'' D = some (.lst vs) ∧ RpA X.K R' vs acc,
      fun H'' hN => ⟨xs.length - (i + 1), by omega, rfl, hlt, hN⟩, fun v H2 hyl => ?_⟩
    -- the item
    obtain ⟨R2, I2, n2, hR2, hH2, rx⟩ : ∃ R2, HE X.K T ⟨b1, S.sl⟩ R2 σ H2 ∧ Nx T R' H' R2 H2 ∧ R2 D = none ∧ H2 D = some (.lst vs) ∧ Rp X.K R2 v xs[i] := by
      rcases hy v H2 hyl with ⟨e1, r1⟩ | ⟨p, us, ds, e1, e2, e3, e4, r1⟩
      · subst e1
        exact ⟨R', I', Nx.refl, hR, hH, r1.le n'.lr⟩
      · subst e1 e3
        have hpD : D ≠ p := ne_of_none hH e2
        refine ⟨_, I'.laid2 e2, Nx.laid2 I'.le e2, by rw [upd_ne hpD]; exact hR, by rw [upd_ne hpD]; exact hH, ?_⟩
        rw [e4]
        exact .tup (SqT.of upd_same) ((r1.le n'.lr).le (Le.upd (I'.le.fre e2)))
    have n12 := n'.trans n2
    refine hgs R2 _ H2 v _ I2.le rx fun ws rw' => ⟨?_, ?_⟩
    · rw [wipe_setV fun j hj => ?_, wipe_wipe fun _ z => z]
      obtain ⟨pp, hp1, hp2⟩ := List.mem_map.mp hj
      rw [← hp2]; exact hown pp hp1
    · have I2w : HE X.K T ⟨b1, setD (wipeS S.sl (own.map (·.2))) ps⟩ R2 (setV (wipe σ (own.map (·.2))) (ps.map (·.1)) ws) H2 := HE.setAll ps (I2.wiped (own.map (·.2))) rw'
      refine fun s0 H0 C cl fp => wpTs_of (X := X.blk s0 H0 scope (compEnvC scope cl C X.env) fp) (ht s0 H0 C cl fp) I2w fun R3 H3 I3 n3 => ?_
      have hR3 : R3 D = none := n3.av D ntD (by rw [hH2]; exact fun z => nomatch z) hR2
      have hH3 : H3 D = some (.lst vs) := n3.lx D _ ntD hH2
      have back : ∀ {b' : Nat} {R4 H4 : Hp}, TwE T b' R4 H4 → Le R4 H4 → Nx T R2 H2 R4 H4 → HE X.K T ⟨b', S.sl⟩ R4 σ H4 := fun {b' R4 H4} tw le n => I2.mono n le tw
      cases c with
      | true =>
        refine iteT fun s0 H0 C cl fp => hc1 rfl s0 H0 C cl fp R3 _ H3 I3 _ fun R4 y H4 dy b4 k4 I4 n4 r4 => ?_
        have hR4 : R4 D = none := n4.av D ntD (by rw [hH3]; exact fun z => nomatch z) hR3
        have hH4 : H4 D = some (.lst vs) := n4.lx D _ ntD hH3
        have ra4 : RpA X.K R4 vs acc := ra.le ((n2.lr.trans n3.lr).trans n4.lr)
        refine ⟨vs, hH4, by rw [ra.length]; omega, R4, acc ++ [dy], b4, vs ++ [y], k4, by rw [List.length_append]; exact Nat.succ_le_succ la, ?_, ?_, hR4, upd_same, ra4.append (.cons r4 .nil)⟩
        · have I4' := back I4.tw I4.le (n3.trans n4)
          refine ⟨I4'.le.muts hR4, fun t et => ?_, I4'.len, I4'.sl⟩
          obtain ⟨f1, zs, f2, f3⟩ := I4'.tw t et
          exact ⟨f1, zs, by rw [upd_ne fun z => ntD (by rw [et, z])]; exact f2, f3⟩
        · have n14 := (n12.trans n3).trans n4
          refine ⟨fun a o na ha => ?_, n14.lr, n14.av⟩
          rw [upd_ne fun z => by rw [z, hD] at ha; cases ha]
          exact n14.lx a o na ha
      | false =>
        exact iteF ⟨R3, acc, b1, vs, hc0 rfl, by omega, back I3.tw I3.le n3, n12.trans n3, hR3, hH3, ra.le (n2.lr.trans n3.lr)⟩
  · have ei : i = xs.length := by omega
    subst ei
    exact .inl ⟨W.stop _ H' (n'.lr.trans I'.le) (Nat.le_refl _), q R' D vs H' acc b1 (fin acc b1 pv) I' (n1.trans n') h0 ntD hR hH ra⟩
theorem evn_lc {κi κ : List PyData → Nat → Prop} (hN : X.N.Nodup) (hi : EvI X T tg iter S κi) (ok : BlkOk X.N X.env.scope scope own) (hg : ForBlk X scope fun Y => PG Y tg g)
    (h : ∀ xs b, κi xs b → ∃ Pv : Nat → List PyData → Nat → Prop, Pv 0 [] b ∧ xs.length ≤ sizeLine ∧ (∀ i x acc b1, xs[i]? = some x → Pv i acc b1 → ∃ ps : List (Nat × PyData), (∀ p ∈ ps, p.1 ∈ own.map (·.2)) ∧ GS X.K g x ps ∧
      ∃ c, ForBlk X scope (fun Y => EvTs Y T ifs ⟨b1, setD (wipeS S.sl (own.map (·.2))) ps⟩ c) ∧ (c = true → ForBlk X scope fun Y => Ev Y T elt ⟨b1, setD (wipeS S.sl (own.map (·.2))) ps⟩ fun y b2 => Pv (i + 1) (acc ++ [y]) b2) ∧ (c = false → Pv (i + 1) acc b1)) ∧ (∀ acc b1, Pv xs.length acc b1 → κ acc b1))
    (hc : X.calm = true := by rfl) (hs : ∀ x, foldedSetIterable iter X.env x = pure x := by intro _; rfl) : EvN X T (.ListComp elt [⟨tg, iter, ifs, 0⟩] scope pos) S κ := fun R σ H I Q q => by
  obtain ⟨wi, hpi, hwi⟩ := hi
  refine wpE_of (pe_lc (wi := wi) (g := g) (tt := fun σ H Q => ForBlk X scope fun Y => wpTs Y ifs σ H Q) (te := fun σ H Q => ForBlk X scope fun Y => wpE Y elt σ H Q) hc hN hpi ok hg (fun s H0 C cl fp => ⟨fun pins s' σ' H' Q' J w => w s H0 C cl fp pins s' J⟩) (fun s H0 C cl fp => ⟨fun pins s' σ' H' Q' J w => w s H0 C cl fp pins s' J⟩) hs) ?_
  exact lc_read hwi h I q
end
end
end PL
set_option maxHeartbeats 4000000
namespace PL
open PySem PySem.Spec PyProof.Rows L2
/-! ### states between statements -/
structure Bs where
  R0 : Hp
  H0 : Hp
section
variable {K : PySem.W.Frag} {B B' : Bs} {T : Option Addr} {R R' R1 R2 H H' H1 H2 : Hp} {σ : L2.St} {S : Sta}
def SS (K : PySem.W.Frag) (B : Bs) (T : Option Addr) (R H : Hp) : Sl → V → Prop
  | .mu ds, v => ∃ a xs, v = .ref a ∧ H a = some (.lst xs) ∧ RpA K R xs ds ∧ R a = none ∧ B.H0 a = none ∧ T ≠ some a
  | s, v => SE K T R s v
structure HS (K : PySem.W.Frag) (B : Bs) (T : Option Addr) (S : Sta) (R : Hp) (σ : L2.St) (H : Hp) : Prop where
  le : Le R H
  n : Nx T B.R0 B.H0 R H
  tw : TwE T S.b R H
  len : S.sl.length ≤ σ.length
  sl : ∀ (i : Nat) (s : Sl), S.sl[i]? = some (some s) → ∃ v, σ[i]? = some (some v) ∧ SS K B T R H s v
  sep : ∀ (i j : Nat) (ds es : List PyData) (a : Addr), i ≠ j → S.sl[i]? = some (some (.mu ds)) → S.sl[j]? = some (some (.mu es)) → σ[i]? = some (some (.ref a)) → σ[j]? ≠ some (some (.ref a))
theorem SS.of {s : Sl} {v : V} (h : SE K T R s v) : SS K B T R H s v := by
  cases s with
  | mu ds => exact (show False from h).elim
  | dat d => exact h
  | town => exact h
  | scr ns => exact h
/-- the mutable ones dropped -/
theorem HS.drp (h : HS K B T S R σ H) : HE K T S.drp R σ H := ⟨h.le, h.tw, by
    have : ∀ l : Sls, (drpS l).length = l.length := fun l => List.length_map ..
    show (drpS S.sl).length ≤ _
    rw [this]; exact h.len, fun i s e => by
    obtain ⟨e1, e2⟩ := drpS_get (show (drpS S.sl)[i]? = some (some s) from e)
    obtain ⟨v, f1, f2⟩ := h.sl i s e1
    refine ⟨v, f1, ?_⟩
    cases s with
    | mu ds => exact absurd rfl (e2 ds)
    | dat d => exact f2
    | town => exact f2
    | scr ns => exact f2⟩
/-- behind an expression that left the mutable ones alone -/
theorem HS.after (h : HS K B T S R σ H) {b : Nat} (le : Le R' H') (n : Nx T R H R' H') (tw : TwE T b R' H') : HS K B T ⟨b, S.sl⟩ R' σ H' :=
  ⟨le, h.n.trans n, tw, h.len, fun i s e => by
    obtain ⟨v, f1, f2⟩ := h.sl i s e
    refine ⟨v, f1, ?_⟩
    cases s with
    | mu ds =>
      obtain ⟨a, xs, g1, g2, g3, g4, g5, g6⟩ := f2
      exact ⟨a, xs, g1, n.lx a _ g6 g2, g3.le n.lr, n.av a g6 (by rw [g2]; exact fun z => nomatch z) g4, g5, g6⟩
    | dat d => exact SE.le (T := T) (s := .dat d) n.lr f2
    | town => exact f2
    | scr ns => exact SE.le (T := T) (s := .scr ns) n.lr f2, h.sep⟩
theorem Nx.none_of {p : Addr} (n : Nx T R H R' H') (nt : T ≠ some p) (h : H' p = none) : H p = none := by
  cases w : H p with
  | none => rfl
  | some o => rw [n.lx p o nt w] at h; cases h
/-- a slot is stored -/
theorem HS.setOne {b : Nat} {sl : Sls} {i : Nat} {v : V} {d : PyData} (h : HS K B T ⟨b, sl⟩ R σ H) (r : Rp K R v d) : HS K B T ⟨b, sl.set i (some (.dat d))⟩ R (σ.set i (some v)) H := by
  have hl : sl.length ≤ σ.length := h.len
  have other : ∀ (j : Nat) (s : Sl), (sl.set i (some (.dat d)))[j]? = some (some s) → j ≠ i → sl[j]? = some (some s) := fun j s e hj => by rwa [List.getElem?_set_ne (Ne.symm hj)] at e
  have self : ∀ (s : Sl), (sl.set i (some (.dat d)))[i]? = some (some s) → s = .dat d ∧ i < sl.length := fun s e => by
    by_cases hk : i < sl.length
    · rw [List.getElem?_set_self hk] at e
      exact ⟨(Option.some.inj (Option.some.inj e)).symm, hk⟩
    · rw [List.getElem?_eq_none (by rw [List.length_set]; omega)] at e; cases e
  refine ⟨h.le, h.n, h.tw, by show (sl.set i _).length ≤ _; rw [List.length_set, List.length_set]; exact hl, fun j s e => ?_, fun j k ds es a hjk e1 e2 e3 => ?_⟩
  · by_cases hj : j = i
    · subst hj
      obtain ⟨e2, hk⟩ := self s e
      subst e2
      exact ⟨v, by rw [List.getElem?_set_self (by omega)], r⟩
    · obtain ⟨w, f1, f2⟩ := h.sl j s (other j s e hj)
      exact ⟨w, by rw [List.getElem?_set_ne (Ne.symm hj)]; exact f1, f2⟩
  · have hj : j ≠ i := fun z => by subst z; cases (self _ e1).1
    have hk : k ≠ i := fun z => by subst z; cases (self _ e2).1
    rw [List.getElem?_set_ne (Ne.symm hj)] at e3
    rw [List.getElem?_set_ne (Ne.symm hk)]
    exact h.sep j k ds es a hjk (other _ _ e1 hj) (other _ _ e2 hk) e3
theorem HS.setM {b : Nat} {sl : Sls} {i : Nat} {p : Addr} {xs : List V} {ds : List PyData} (h : HS K B T ⟨b, sl⟩ R σ H) (r : RpA K R xs ds) (h1 : H p = some (.lst xs)) (h2 : R p = none) (h3 : B.H0 p = none) (h4 : T ≠ some p)
    (hne : ∀ (j : Nat) (es : List PyData), j ≠ i → sl[j]? = some (some (.mu es)) → σ[j]? ≠ some (some (.ref p))) : HS K B T ⟨b, sl.set i (some (.mu ds))⟩ R (σ.set i (some (.ref p))) H := by
  have hl : sl.length ≤ σ.length := h.len
  have other : ∀ (j : Nat) (s : Sl), (sl.set i (some (.mu ds)))[j]? = some (some s) → j ≠ i → sl[j]? = some (some s) := fun j s e hj => by rwa [List.getElem?_set_ne (Ne.symm hj)] at e
  have self : ∀ (s : Sl), (sl.set i (some (.mu ds)))[i]? = some (some s) → s = .mu ds ∧ i < sl.length := fun s e => by
    by_cases hk : i < sl.length
    · rw [List.getElem?_set_self hk] at e
      exact ⟨(Option.some.inj (Option.some.inj e)).symm, hk⟩
    · rw [List.getElem?_eq_none (by rw [List.length_set]; omega)] at e; cases e
  refine ⟨h.le, h.n, h.tw, by show (sl.set i _).length ≤ _; rw [List.length_set, List.length_set]; exact hl, fun j s e => ?_, fun j k ds' es a hjk e1 e2 e3 => ?_⟩
  · by_cases hj : j = i
    · subst hj
      obtain ⟨e2, hk⟩ := self s e
      subst e2
      exact ⟨.ref p, by rw [List.getElem?_set_self (by omega)], p, xs, rfl, h1, r, h2, h3, h4⟩
    · obtain ⟨w, f1, f2⟩ := h.sl j s (other j s e hj)
      exact ⟨w, by rw [List.getElem?_set_ne (Ne.symm hj)]; exact f1, f2⟩
  · by_cases hj : j = i
    · subst hj
      obtain ⟨_, hk'⟩ := self _ e1
      rw [List.getElem?_set_self (by omega)] at e3
      cases e3
      rw [List.getElem?_set_ne hjk]
      exact hne k es (Ne.symm hjk) (other _ _ e2 (Ne.symm hjk))
    · rw [List.getElem?_set_ne (Ne.symm hj)] at e3
      by_cases hk : k = i
      · subst hk
        obtain ⟨_, hk'⟩ := self _ e2
        rw [List.getElem?_set_self (by omega)]
        intro z
        have z' : a = p := by cases z; rfl
        subst z'
        exact hne j ds' hj (other _ _ e1 hj) e3
      · rw [List.getElem?_set_ne (Ne.symm hk)]
        exact h.sep j k ds' es a hjk (other _ _ e1 hj) (other _ _ e2 hk) e3
/-- a mutable list is given up: it is data from now on -/
theorem HS.setAll : ∀ (ps : List (Nat × PyData)) {vs : List V} {b : Nat} {sl : Sls} {σ : L2.St}, HS K B T ⟨b, sl⟩ R σ H → RpA K R vs (ps.map (·.2)) → HS K B T ⟨b, setD sl ps⟩ R (setV σ (ps.map (·.1)) vs) H
  | [], vs, b, sl, σ, I, r => by cases r; exact I
  | p :: ps, vs, b, sl, σ, I, r => by
    cases r with
    | cons r1 r2 => exact HS.setAll ps (I.setOne (i := p.1) r1) r2
/-- the mutable ones' places -/
def Mu (S : Sta) (σ : L2.St) (a : Addr) : Prop := ∃ (i : Nat) (ds : List PyData), S.sl[i]? = some (some (.mu ds)) ∧ σ[i]? = some (some (.ref a))
theorem HS.mu (h : HS K B T S R σ H) {a : Addr} (m : Mu S σ a) : ∃ xs ds, H a = some (.lst xs) ∧ RpA K R xs ds ∧ R a = none ∧ B.H0 a = none ∧ T ≠ some a := by
  obtain ⟨i, ds, e1, e2⟩ := m
  obtain ⟨v, f1, f2⟩ := h.sl i _ e1
  rw [e2] at f1
  cases f1
  obtain ⟨a', xs, g1, g2⟩ := f2
  cases g1
  exact ⟨xs, ds, g2⟩
open Classical in
noncomputable def frzR (S : Sta) (σ : L2.St) (R H : Hp) : Hp := fun a => if Mu S σ a then H a else R a
open Classical in
noncomputable def unR (S : Sta) (σ : L2.St) (R : Hp) : Hp := fun a => if Mu S σ a then none else R a
theorem frzR_yes {a : Addr} (m : Mu S σ a) : frzR S σ R H a = H a := by unfold frzR; rw [if_pos m]
theorem frzR_no {a : Addr} (m : ¬ Mu S σ a) : frzR S σ R H a = R a := by unfold frzR; rw [if_neg m]
theorem unR_yes {a : Addr} (m : Mu S σ a) : unR S σ R a = none := by unfold unR; rw [if_pos m]
theorem unR_no {a : Addr} (m : ¬ Mu S σ a) : unR S σ R a = R a := by unfold unR; rw [if_neg m]
theorem HS.leF (h : HS K B T S R σ H) : Le R (frzR S σ R H) := fun a o e => by
  by_cases m : Mu S σ a
  · rw [frzR_yes m]; exact h.le a o e
  · rw [frzR_no m]; exact e
theorem frzS_len (l : Sls) : (frzS l).length = l.length := List.length_map ..
/-- the mutable ones read as data -/
theorem HS.frz (h : HS K B T S R σ H) : HE K T S.frz (frzR S σ R H) σ H := by
  refine ⟨fun a o e => ?_, fun t et => ?_, by show (frzS S.sl).length ≤ _; rw [frzS_len]; exact h.len, fun i s e => ?_⟩
  · by_cases m : Mu S σ a
    · rw [frzR_yes m] at e; exact e
    · rw [frzR_no m] at e; exact h.le a o e
  · obtain ⟨w1, w2⟩ := h.tw t et
    refine ⟨?_, w2⟩
    rw [frzR_no fun m => ?_]
    · exact w1
    · obtain ⟨_, _, _, _, _, _, nt⟩ := h.mu m
      exact nt et
  · obtain ⟨s', e1, e2⟩ := frzS_get (show (frzS S.sl)[i]? = some (some s) from e)
    obtain ⟨v, f1, f2⟩ := h.sl i s' e1
    refine ⟨v, f1, ?_⟩
    subst e2
    cases s' with
    | mu ds =>
      obtain ⟨a, xs, g1, g2, g3, g4, g5, g6⟩ := f2
      subst g1
      exact .lst (by rw [frzR_yes ⟨i, ds, e1, f1⟩]; exact g2) (g3.le h.leF)
    | dat d => exact SE.le (T := T) (s := .dat d) h.leF f2
    | town => exact f2
    | scr ns => exact SE.le (T := T) (s := .scr ns) h.leF f2
/-- .. and back -/
theorem HS.thaw (h : HS K B T S R σ H) (le : Le R' H') (n : Nx T (frzR S σ R H) H R' H') : Le (unR S σ R') H' ∧ Nx T R H (unR S σ R') H' ∧ NotLst R' (unR S σ R') ∧ ∀ {b : Nat}, TwE T b R' H' → TwE T b (unR S σ R') H' := by
  refine ⟨fun a o e => ?_, ⟨n.lx, fun a o e => ?_, fun a na ha hr => ?_⟩, fun a o e hn => ?_, fun {b} tw t et => ?_⟩
  · by_cases m : Mu S σ a
    · rw [unR_yes m] at e; cases e
    · rw [unR_no m] at e; exact le a o e
  · by_cases m : Mu S σ a
    · obtain ⟨_, _, _, _, w, _⟩ := h.mu m
      rw [w] at e; cases e
    · rw [unR_no m]; exact n.lr a o (h.leF a o e)
  · by_cases m : Mu S σ a
    · rw [unR_yes m]
    · rw [unR_no m]; exact n.av a na ha (by rw [frzR_no m]; exact hr)
  · by_cases m : Mu S σ a
    · obtain ⟨xs, _, w, _⟩ := h.mu m
      have e1 := n.lr a _ (by rw [frzR_yes m]; exact w)
      rw [e1] at e
      cases e
      exact absurd rfl (hn xs)
    · rw [unR_no m]; exact e
  · obtain ⟨w1, w2⟩ := tw t et
    refine ⟨?_, w2⟩
    by_cases m : Mu S σ t
    · rw [unR_yes m]
    · rw [unR_no m]; exact w1
/-- from a later base to an earlier one -/
theorem HS.rebase (h : HS K B' T S R σ H) (n : Nx T B.R0 B.H0 B'.R0 B'.H0) : HS K B T S R σ H :=
  ⟨h.le, n.trans h.n, h.tw, h.len, fun i s e => by
    obtain ⟨v, f1, f2⟩ := h.sl i s e
    refine ⟨v, f1, ?_⟩
    cases s with
    | mu ds =>
      obtain ⟨a, xs, g1, g2, g3, g4, g5, g6⟩ := f2
      exact ⟨a, xs, g1, g2, g3, g4, n.none_of g6 g5, g6⟩
    | dat d => exact f2
    | town => exact f2
    | scr ns => exact f2, h.sep⟩
/-- a base that holds all but the mutable ones -/
theorem HS.here (h : HS K B T S R σ H) : ∃ B' : Bs, B'.R0 = R ∧ Nx T B.R0 B.H0 B'.R0 B'.H0 ∧ HS K B' T S R σ H := by
  refine ⟨⟨R, unR S σ H⟩, rfl, ⟨fun a o na e => ?_, h.n.lr, h.n.av⟩, ⟨h.le, ⟨fun a o na e => ?_, Le.refl R, fun _ _ _ r => r⟩, h.tw, h.len, fun i s e => ?_, h.sep⟩⟩
  · show unR S σ H a = some o
    rw [unR_no fun m => ?_]
    · exact h.n.lx a o na e
    · obtain ⟨_, _, _, _, _, w, _⟩ := h.mu m
      rw [w] at e; cases e
  · by_cases m : Mu S σ a
    · rw [show (Bs.mk R (unR S σ H)).H0 a = none from unR_yes m] at e; cases e
    · rw [show (Bs.mk R (unR S σ H)).H0 a = H a from unR_no m] at e; exact e
  · obtain ⟨v, f1, f2⟩ := h.sl i s e
    refine ⟨v, f1, ?_⟩
    cases s with
    | mu ds =>
      obtain ⟨a, xs, g1, g2, g3, g4, g5, g6⟩ := f2
      subst g1
      exact ⟨a, xs, rfl, g2, g3, g4, unR_yes ⟨i, ds, e, f1⟩, g6⟩
    | dat d => exact f2
    | town => exact f2
    | scr ns => exact f2
theorem HS.laid2 {p : Addr} {o : HO} (h : HS K B T S R σ H) (hp : H p = none) : HS K B T S (upd R p o) σ (upd H p o) := h.after h.le.upd2 (Nx.laid2 h.le hp) (h.tw.laid2 hp)
end

/-! ### running statements -/
structure KD where
  nx : Sta → Prop
  rt : PyData → Nat → Prop
  bk : Sta → Prop := fun _ => False
  ct : Sta → Prop := fun _ => False
structure Lift (K : PySem.W.Frag) (B : Bs) (T : Option Addr) (k : KD) (D : Ends) : Prop where
  nx : ∀ S R σ H, k.nx S → HS K B T S R σ H → D.nx σ H
  bk : ∀ S R σ H, k.bk S → HS K B T S R σ H → D.bk σ H
  ct : ∀ S R σ H, k.ct S → HS K B T S R σ H → D.ct σ H
  rt : ∀ R v H d b, k.rt d b → Le R H → Nx T B.R0 B.H0 R H → TwE T b R H → Rp K R v d → D.rt v H
theorem Lift.rebase {K : PySem.W.Frag} {B B' : Bs} {T : Option Addr} {k : KD} {D : Ends} (L : Lift K B T k D) (n : Nx T B.R0 B.H0 B'.R0 B'.H0) : Lift K B' T k D :=
  ⟨fun S R σ H h I => L.nx S R σ H h (I.rebase n), fun S R σ H h I => L.bk S R σ H h (I.rebase n), fun S R σ H h I => L.ct S R σ H h (I.rebase n), fun R v H d b h le n' tw r => L.rt R v H d b h le (n.trans n') tw r⟩
def Run (X : Cx) (T : Option Addr) (sts : List Stmt) (S : Sta) (k : KD) : Prop := ∀ (B : Bs) (R : Hp) (σ : L2.St) (H : Hp), HS X.K B T S R σ H → ∀ D : Ends, Lift X.K B T k D → wpSs X sts D σ H
section
variable {X : Cx} {T : Option Addr} {S : Sta} {k : KD} {e a b c tg : Expr} {es : List Expr} {st : Stmt} {rest body oth : List Stmt} {pos pos' : Pos} {d : PyData} {κ : PyData → Nat → Prop}
theorem run_nil (h : k.nx S) : Run X T [] S k := fun B R σ H I D L => wpSs_of pss_nil (L.nx S R σ H h I)
theorem Run.imp {k' : KD} (h : Run X T rest S k) (h1 : ∀ S, k.nx S → k'.nx S) (h2 : ∀ d b, k.rt d b → k'.rt d b) (h3 : ∀ S, k.bk S → k'.bk S) (h4 : ∀ S, k.ct S → k'.ct S) : Run X T rest S k' := fun B R σ H I D L =>
  h B R σ H I D ⟨fun S R σ H q => L.nx S R σ H (h1 S q), fun S R σ H q => L.bk S R σ H (h3 S q), fun S R σ H q => L.ct S R σ H (h4 S q), fun R v H d b q => L.rt R v H d b (h2 d b q)⟩
theorem seq_of {D : Ends} {σ : L2.St} {H : Hp} {t : TS} (hs : PS X st t) (h : t { D with nx := wpSs X rest D } σ H) : wpSs X (st :: rest) D σ H := wpSs_of (pss_cons hs pss_wp) h
/-- x = e -/
theorem run_asg (i : Nat) {x : Str} (h : Ev X T e S.drp fun d b => Run X T rest ⟨b, S.sl.set i (some (.dat d))⟩ k) (hN : X.N.Nodup) (hi : X.N[i]? = some x := by rfl) (hx : Loc X.env.scope x := by first | exact .inl rfl | exact .inr rfl) (hf : X.fn x = true ∨ X.env.scope.names.lookup x = some .local := by first | exact .inl rfl | exact .inr rfl)
    (hs : swapsWith e (some (.Name x pos')) pos.line X.env = pure false := by rfl) : Run X T (.Assign [.Name x pos'] e pos :: rest) S k := fun B R σ H I D L =>
  seq_of (ps_set (i := i) hN hi hx pe_wp hs hf) (h R σ H I.drp _ fun R1 v H1 d b k1 I1 n1 r1 =>
    k1 B R1 _ H1 ((I.after I1.le n1 I1.tw).setOne r1) D L)
theorem run_asgP (i : Nat) {x : Str} (h : EvP X T e S.drp d) (q : Run X T rest ⟨S.b, S.sl.set i (some (.dat d))⟩ k) (hN : X.N.Nodup) (hi : X.N[i]? = some x := by rfl) (hx : Loc X.env.scope x := by first | exact .inl rfl | exact .inr rfl) (hf : X.fn x = true ∨ X.env.scope.names.lookup x = some .local := by first | exact .inl rfl | exact .inr rfl)
    (hs : swapsWith e (some (.Name x pos')) pos.line X.env = pure false := by rfl) : Run X T (.Assign [.Name x pos'] e pos :: rest) S k := run_asg i (Ev.k h q) hN hi hx hf hs
/-- x = e, e reads mutable ones -/
theorem run_asgF (i : Nat) {x : Str} (h : EvP X T e S.frz d) (hn : noL d = true) (q : Run X T rest ⟨S.b, S.sl.set i (some (.dat d))⟩ k) (hN : X.N.Nodup) (hi : X.N[i]? = some x := by rfl) (hx : Loc X.env.scope x := by first | exact .inl rfl | exact .inr rfl) (hf : X.fn x = true ∨ X.env.scope.names.lookup x = some .local := by first | exact .inl rfl | exact .inr rfl)
    (hs : swapsWith e (some (.Name x pos')) pos.line X.env = pure false := by rfl) : Run X T (.Assign [.Name x pos'] e pos :: rest) S k := fun B R σ H I D L =>
  seq_of (ps_set (i := i) hN hi hx pe_wp hs hf) (h _ σ H I.frz _ fun R1 v H1 d' b k1 I1 n1 r1 => by
    obtain ⟨e1, e2⟩ := k1; subst e1 e2
    obtain ⟨t1, t2, t3, t4⟩ := I.thaw I1.le n1
    exact q B _ _ H1 ((I.after t1 t2 (t4 I1.tw)).setOne (r1.nol t3 hn)) D L)
/-- x = a new list, to be changed -/
theorem run_new (i : Nat) {x : Str} {κ' : List PyData → Nat → Prop} (h : EvN X T e S.drp κ') (q : ∀ ds b, κ' ds b → Run X T rest ⟨b, S.sl.set i (some (.mu ds))⟩ k) (hN : X.N.Nodup) (hi : X.N[i]? = some x := by rfl) (hx : Loc X.env.scope x := by first | exact .inl rfl | exact .inr rfl) (hf : X.fn x = true ∨ X.env.scope.names.lookup x = some .local := by first | exact .inl rfl | exact .inr rfl)
    (hs : swapsWith e (some (.Name x pos')) pos.line X.env = pure false := by rfl) : Run X T (.Assign [.Name x pos'] e pos :: rest) S k := fun B R σ H I D L =>
  seq_of (ps_set (i := i) hN hi hx pe_wp hs hf) (h R σ H I.drp _ fun R1 p xs H1 ds b k1 I1 n1 h1 h2 h3 h4 h5 =>
    q ds b k1 B R1 _ H1 ((I.after I1.le n1 I1.tw).setM h5 h4 h3 (I.n.none_of h2 h1) h2 fun j es _ hj hσ => by
      obtain ⟨xs', _, w, _⟩ := I.mu ⟨j, es, hj, hσ⟩
      rw [h1] at w; cases w) D L)
/-- .. whose items are read of mutable ones -/
theorem run_newF (i : Nat) {x : Str} {ds : List PyData} (h : EvNP X T e S.frz ds) (hn : noLs ds = true) (q : Run X T rest ⟨S.b, S.sl.set i (some (.mu ds))⟩ k) (hN : X.N.Nodup) (hi : X.N[i]? = some x := by rfl) (hx : Loc X.env.scope x := by first | exact .inl rfl | exact .inr rfl) (hf : X.fn x = true ∨ X.env.scope.names.lookup x = some .local := by first | exact .inl rfl | exact .inr rfl)
    (hs : swapsWith e (some (.Name x pos')) pos.line X.env = pure false := by rfl) : Run X T (.Assign [.Name x pos'] e pos :: rest) S k := fun B R σ H I D L =>
  seq_of (ps_set (i := i) hN hi hx pe_wp hs hf) (h _ σ H I.frz _ fun R1 p xs H1 ds' b k1 I1 n1 h1 h2 h3 h4 h5 => by
    obtain ⟨e1, e2⟩ := k1; subst e1 e2
    obtain ⟨t1, t2, t3, t4⟩ := I.thaw I1.le n1
    have hp : unR S σ R1 p = none := by
      by_cases m : Mu S σ p
      · exact unR_yes m
      · rw [unR_no m]; exact h3
    exact q B _ _ H1 ((I.after t1 t2 (t4 I1.tw)).setM (h5.nol t3 hn) h4 hp (I.n.none_of h2 h1) h2 fun j es _ hj hσ => by
      obtain ⟨xs', _, w, _⟩ := I.mu ⟨j, es, hj, hσ⟩
      rw [h1] at w; cases w) D L)
/-- the mutable list in slot i is data from here on -/
theorem HS.giveUp {K : PySem.W.Frag} {B : Bs} {R H : Hp} {σ : L2.St} {i : Nat} {ds : List PyData} (h : HS K B T S R σ H) (hi : S.sl[i]? = some (some (.mu ds))) : ∃ R', HS K B T ⟨S.b, S.sl.set i (some (.dat (.list ds)))⟩ R' σ H := by
  obtain ⟨v, f1, a, xs, g1, g2, g3, g4, g5, g6⟩ := h.sl i _ hi
  subst g1
  have hlt : i < S.sl.length := (List.getElem?_eq_some_iff.mp hi).1
  have le' : Le R (L2.upd R a (.lst xs)) := Le.upd g4
  refine ⟨L2.upd R a (.lst xs), fun b o e => ?_, ⟨h.n.lx, h.n.lr.trans le', fun b nb hb hr => ?_⟩, fun t et => ?_, by show (S.sl.set i _).length ≤ _; rw [List.length_set]; exact h.len, fun j s e => ?_, fun j k es fs b hjk e1 e2 e3 => ?_⟩
  · by_cases hb : b = a
    · subst hb; rw [upd_same] at e; cases e; exact g2
    · rw [upd_ne hb] at e; exact h.le b o e
  · rw [upd_ne fun z => hb (by rw [z]; exact g5)]
    exact h.n.av b nb hb hr
  · obtain ⟨w1, w2⟩ := h.tw t et
    exact ⟨by rw [upd_ne fun z => g6 (by rw [et, z])]; exact w1, w2⟩
  · have e' : (S.sl.set i (some (.dat (.list ds))))[j]? = some (some s) := e
    by_cases hj : j = i
    · subst hj
      rw [List.getElem?_set_self hlt] at e'
      cases e'
      exact ⟨.ref a, f1, .lst upd_same (g3.le le')⟩
    · rw [List.getElem?_set_ne (Ne.symm hj)] at e'
      obtain ⟨w, k1, k2⟩ := h.sl j s e'
      refine ⟨w, k1, ?_⟩
      cases s with
      | mu es =>
        obtain ⟨b, ys, m1, m2, m3, m4, m5, m6⟩ := k2
        subst m1
        have hne : b ≠ a := fun z => by
          subst z
          exact h.sep i j ds es b (Ne.symm hj) hi e' f1 k1
        exact ⟨b, ys, rfl, m2, m3.le le', by rw [upd_ne hne]; exact m4, m5, m6⟩
      | dat d => exact SE.le (T := T) (s := .dat d) le' k2
      | town => exact k2
      | scr ns => exact SE.le (T := T) (s := .scr ns) le' k2
  · have q : ∀ (m : Nat) (gs : List PyData), (S.sl.set i (some (.dat (.list ds))))[m]? = some (some (.mu gs)) → S.sl[m]? = some (some (.mu gs)) := fun m gs e => by
      by_cases hm : m = i
      · subst hm
        rw [List.getElem?_set_self hlt] at e; cases e
      · rwa [List.getElem?_set_ne (Ne.symm hm)] at e
    exact h.sep j k es fs b hjk (q _ _ e1) (q _ _ e2) e3
theorem run_give (i : Nat) {ds : List PyData} (hi : S.sl[i]? = some (some (.mu ds))) (q : Run X T rest ⟨S.b, S.sl.set i (some (.dat (.list ds)))⟩ k) : Run X T rest S k := fun B R σ H I D L => by
  obtain ⟨R', I'⟩ := I.giveUp hi
  exact q B R' σ H I' D L
/-- a slot is forgotten -/
theorem HS.forget {K : PySem.W.Frag} {B : Bs} {R H : Hp} {σ : L2.St} (h : HS K B T S R σ H) {sl : Sls} (hl : sl.length ≤ S.sl.length) (hs : ∀ (i : Nat) (s : Sl), sl[i]? = some (some s) → S.sl[i]? = some (some s)) {b : Nat} (hb : b ≤ S.b) : HS K B T ⟨b, sl⟩ R σ H :=
  ⟨h.le, h.n, fun t et => by
    obtain ⟨w1, zs, w2, w3⟩ := h.tw t et
    have hb' : b ≤ S.b := hb
    refine ⟨w1, zs, w2, ?_⟩
    show zs.length + b ≤ sizeLine
    omega, Nat.le_trans hl h.len, fun i s e => h.sl i s (hs i s e), fun i j ds es a hij e1 e2 e3 => h.sep i j ds es a hij (hs _ _ e1) (hs _ _ e2) e3⟩
/-- the town spends -/
theorem run_less {b : Nat} (hb : b ≤ S.b) (q : Run X T rest ⟨b, S.sl⟩ k) : Run X T rest S k := fun B R σ H I D L => q B R σ H (I.forget (Nat.le_refl _) (fun _ _ e => e) hb) D L
/-- return e -/
theorem run_ret (h : Ev X T e S.drp fun d b => k.rt d b) : Run X T (.Return (some e) pos :: rest) S k := fun B R σ H I D L =>
  seq_of (ps_ret pe_wp) (h R σ H I.drp _ fun R1 v H1 d b k1 I1 n1 r1 => L.rt R1 v H1 d b k1 I1.le (I.n.trans n1) I1.tw r1)
theorem run_retP (h : EvP X T e S.drp d) (q : k.rt d S.b) : Run X T (.Return (some e) pos :: rest) S k := run_ret (Ev.k h q)
theorem run_retF (h : EvP X T e S.frz d) (hn : noL d = true) (q : k.rt d S.b) : Run X T (.Return (some e) pos :: rest) S k := fun B R σ H I D L =>
  seq_of (ps_ret pe_wp) (h _ σ H I.frz _ fun R1 v H1 d' b k1 I1 n1 r1 => by
    obtain ⟨e1, e2⟩ := k1; subst e1 e2
    obtain ⟨t1, t2, t3, t4⟩ := I.thaw I1.le n1
    exact L.rt _ v H1 _ _ q t1 (I.n.trans t2) (t4 I1.tw) (r1.nol t3 hn))
theorem run_if {p : Bool} (h : EvT X T c S.frz p) (h1 : p = true → Run X T body S { k with nx := fun S' => Run X T rest S' k }) (h2 : p = false → Run X T oth S { k with nx := fun S' => Run X T rest S' k }) : Run X T (.If c body oth pos :: rest) S k := fun B R σ H I D L => by
  have LL : Lift X.K B T { k with nx := fun S' => Run X T rest S' k } { D with nx := wpSs X rest D } := ⟨fun S' R' σ' H' q I' => q B R' σ' H' I' D L, L.bk, L.ct, L.rt⟩
  refine seq_of (ps_if pt_wp pss_wp pss_wp) (h _ σ H I.frz _ fun R1 H1 I1 n1 => ?_)
  obtain ⟨t1, t2, t3, t4⟩ := I.thaw I1.le n1
  have I2 : HS X.K B T S _ σ H1 := I.after t1 t2 (t4 I1.tw)
  cases p with
  | true => exact iteT (h1 rfl B _ σ H1 I2 _ LL)
  | false => exact iteF (h2 rfl B _ σ H1 I2 _ LL)
theorem run_ifT (h : EvT X T c S.frz true) (h1 : Run X T body S { k with nx := fun S' => Run X T rest S' k }) : Run X T (.If c body oth pos :: rest) S k := run_if h (fun _ => h1) fun z => by cases z
theorem run_ifF (h : EvT X T c S.frz false) (h1 : Run X T oth S { k with nx := fun S' => Run X T rest S' k }) : Run X T (.If c body oth pos :: rest) S k := run_if h (fun z => by cases z) fun _ => h1
/-- an if without else that is not taken -/
theorem run_if0 (h : EvT X T c S.frz false) (h1 : Run X T rest S k) : Run X T (.If c body [] pos :: rest) S k := run_ifF h (run_nil h1)
theorem run_yes {p : Bool} (h : EvT X T c S.frz p) (h1 : Run X T body S { k with nx := fun S' => Run X T rest S' k }) (hp : p = true := by rfl) : Run X T (.If c body oth pos :: rest) S k := run_ifT (hp ▸ h) h1
theorem run_no {p : Bool} (h : EvT X T c S.frz p) (h1 : Run X T oth S { k with nx := fun S' => Run X T rest S' k }) (hp : p = false := by rfl) : Run X T (.If c body oth pos :: rest) S k := run_ifF (hp ▸ h) h1
theorem run_no0 {p : Bool} (h : EvT X T c S.frz p) (h1 : Run X T rest S k) (hp : p = false := by rfl) : Run X T (.If c body [] pos :: rest) S k := run_if0 (hp ▸ h) h1
theorem run_break (h : k.bk S) : Run X T (.Break pos :: rest) S k := fun B R σ H I D L => seq_of ps_break (L.bk S R σ H h I)
theorem run_cont (h : k.ct S) : Run X T (.Continue pos :: rest) S k := fun B R σ H I D L => seq_of ps_continue (L.ct S R σ H h I)
theorem run_pass (h : Run X T rest S k) : Run X T (.Pass pos :: rest) S k := fun B R σ H I D L => seq_of ps_pass (h B R σ H I D L)
/-- e alone -/
theorem run_drop (h : Ev X T e S.drp fun _ b => Run X T rest ⟨b, S.sl⟩ k) (hs : swapsWith e none pos.line X.env = pure false := by rfl) : Run X T (.Expr e pos :: rest) S k := fun B R σ H I D L =>
  seq_of (ps_expr pe_wp hs) (h R σ H I.drp _ fun R1 v H1 d b k1 I1 n1 r1 => k1 B R1 _ H1 (I.after I1.le n1 I1.tw) D L)
/-- x.append(e) -/
theorem HS.putM {K : PySem.W.Frag} {B : Bs} {R H : Hp} {σ : L2.St} {i : Nat} {ds ds' : List PyData} {p : Addr} {xs : List V} (h : HS K B T S R σ H) (hi : S.sl[i]? = some (some (.mu ds))) (hp : σ[i]? = some (some (.ref p))) (r : RpA K R xs ds') : HS K B T ⟨S.b, S.sl.set i (some (.mu ds'))⟩ R σ (L2.upd H p (.lst xs)) := by
  obtain ⟨v, f1, a, ys, g1, g2, g3, g4, g5, g6⟩ := h.sl i _ hi
  rw [hp] at f1; cases f1; cases g1
  have hlt : i < S.sl.length := (List.getElem?_eq_some_iff.mp hi).1
  have back : ∀ (m : Nat) (es : List PyData), (S.sl.set i (some (.mu ds')))[m]? = some (some (.mu es)) → ∃ fs, S.sl[m]? = some (some (.mu fs)) := fun m es e => by
    by_cases hm : m = i
    · subst hm; exact ⟨ds, hi⟩
    · rw [List.getElem?_set_ne (Ne.symm hm)] at e; exact ⟨es, e⟩
  refine ⟨h.le.muts g4, ⟨fun b o nb e => ?_, h.n.lr, h.n.av⟩, fun t et => ?_, by show (S.sl.set i _).length ≤ _; rw [List.length_set]; exact h.len, fun j s e => ?_, fun j k es fs b hjk e1 e2 e3 => ?_⟩
  · rw [upd_ne fun z => by rw [z, g5] at e; cases e]
    exact h.n.lx b o nb e
  · obtain ⟨w1, zs, w2, w3⟩ := h.tw t et
    exact ⟨w1, zs, by rw [upd_ne fun z => g6 (by rw [et, z])]; exact w2, w3⟩
  · have e' : (S.sl.set i (some (.mu ds')))[j]? = some (some s) := e
    by_cases hj : j = i
    · subst hj
      rw [List.getElem?_set_self hlt] at e'
      cases e'
      exact ⟨.ref p, hp, p, xs, rfl, upd_same, r, g4, g5, g6⟩
    · rw [List.getElem?_set_ne (Ne.symm hj)] at e'
      obtain ⟨w, k1, k2⟩ := h.sl j s e'
      refine ⟨w, k1, ?_⟩
      cases s with
      | mu es =>
        obtain ⟨b, zs, m1, m2, m3, m4, m5, m6⟩ := k2
        subst m1
        have hne : b ≠ p := fun z => by
          subst z
          exact h.sep i j ds es b (Ne.symm hj) hi e' hp k1
        exact ⟨b, zs, rfl, by rw [upd_ne hne]; exact m2, m3, m4, m5, m6⟩
      | dat d => exact k2
      | town => exact k2
      | scr ns => exact k2
  · obtain ⟨es', e1'⟩ := back _ _ e1
    obtain ⟨fs', e2'⟩ := back _ _ e2
    exact h.sep j k es' fs' b hjk e1' e2' e3
section
variable {x : Str} {p1 p2 p3 : Pos}
/-- e between statements -/
def EvS (X : Cx) (T : Option Addr) (e : Expr) (S : Sta) (κ : PyData → Nat → Prop) : Prop := ∀ (B : Bs) (R : Hp) (σ : L2.St) (H : Hp), HS X.K B T S R σ H → ∀ Q : VK,
  (∀ (R' : Hp) (v : V) (H' : Hp) (d : PyData) (b : Nat), κ d b → HS X.K B T ⟨b, S.sl⟩ R' σ H' → Rp X.K R' v d → Q v H') → wpE X e σ H Q
theorem evs_drp (h : Ev X T e S.drp κ) : EvS X T e S κ := fun B R σ H I Q q => h R σ H I.drp _ fun R1 v H1 d b k1 I1 n1 r1 => q R1 v H1 d b k1 (I.after I1.le n1 I1.tw) r1
theorem evs_drpP (h : EvP X T e S.drp d) (k : κ d S.b) : EvS X T e S κ := evs_drp (Ev.k h k)
theorem evs_frz (h : EvP X T e S.frz d) (hn : noL d = true) (k : κ d S.b) : EvS X T e S κ := fun B R σ H I Q q => h _ σ H I.frz _ fun R1 v H1 d' b k1 I1 n1 r1 => by
  obtain ⟨e1, e2⟩ := k1; subst e1 e2
  obtain ⟨t1, t2, t3, t4⟩ := I.thaw I1.le n1
  exact q _ v H1 _ _ k (I.after t1 t2 (t4 I1.tw)) (r1.nol t3 hn)
/-- a new list of items that were read of mutable ones -/
theorem evs_new {ds : List PyData} (h : EvNP X T e S.frz ds) (hn : noLs ds = true) (k : κ (.list ds) S.b) : EvS X T e S κ := fun B R σ H I Q q => h _ σ H I.frz _ fun R1 p xs H1 ds' b k1 I1 n1 h1 h2 h3 h4 h5 => by
  obtain ⟨e1, e2⟩ := k1; subst e1 e2
  obtain ⟨t1, t2, t3, t4⟩ := I.thaw I1.le n1
  have hp : unR S σ R1 p = none := by
    by_cases m : Mu S σ p
    · exact unR_yes m
    · rw [unR_no m]; exact h3
  have I2 := I.after t1 t2 (t4 I1.tw)
  have le' : Le (unR S σ R1) (L2.upd (unR S σ R1) p (.lst xs)) := Le.upd hp
  have nmu : ¬ Mu S σ p := fun m => by
    obtain ⟨xs', _, w, _⟩ := I.mu m
    rw [h1] at w; cases w
  refine q (L2.upd (unR S σ R1) p (.lst xs)) (.ref p) H1 _ _ k ⟨fun a o w => ?_, ⟨I2.n.lx, I2.n.lr.trans le', fun a na ha hr => ?_⟩, fun t et => ?_, I2.len, fun i s w => ?_, I2.sep⟩ (.lst upd_same ((h5.nol t3 hn).le le'))
  · by_cases ha : a = p
    · subst ha; rw [upd_same] at w; cases w; exact h4
    · rw [upd_ne ha] at w; exact t1 a o w
  · rw [upd_ne fun z => ha (by rw [z]; exact I.n.none_of h2 h1)]
    exact I2.n.av a na ha hr
  · obtain ⟨w1, w2⟩ := I2.tw t et
    exact ⟨by rw [upd_ne fun z => h2 (by rw [et, z])]; exact w1, w2⟩
  · obtain ⟨v, f1, f2⟩ := I2.sl i s w
    refine ⟨v, f1, ?_⟩
    cases s with
    | mu ds =>
      obtain ⟨a, zs, g1, g2, g3, g4, g5, g6⟩ := f2
      subst g1
      have hap : a ≠ p := fun z => nmu ⟨i, ds, w, by rw [← z]; exact f1⟩
      exact ⟨a, zs, rfl, g2, g3.le le', by rw [upd_ne hap]; exact g4, g5, g6⟩
    | dat d => exact SE.le (T := T) (s := .dat d) le' f2
    | town => exact f2
    | scr ns => exact SE.le (T := T) (s := .scr ns) le' f2
theorem run_app (i : Nat) {ds : List PyData} (hi : S.sl[i]? = some (some (.mu ds))) (hz : ds.length < sizeLine) (h : EvS X T e S fun d b => Run X T rest ⟨b, S.sl.set i (some (.mu (ds ++ [d])))⟩ k)
    (hN : X.N[i]? = some x := by rfl) (hv : Vis X.env.scope x := by first | exact Or.inl rfl | exact Or.inr (Or.inl rfl) | exact Or.inr (Or.inr rfl)) (hd : (x == ("__debug__" : Str)) = false := by decide) (hcd : (x == ("__classdict__" : Str)) = false := by decide)
    (hs : swapsWith (.Call (.Attribute (.Name x p1) "append" p2) [e] [] p3) none pos.line X.env = pure false := by rfl) (hse : starEach [e] X.env = (false, eval e X.env) :: starEach [] X.env := by rfl)
    (hbase : attributeBase (.Name x p1) "append" X.env (eval (.Name x p1) X.env) = eval (.Name x p1) X.env := by rfl)
    (hfew : ((backTo p3 (starEach [e] X.env)).all (fun x => !x.1) && (backToKw p3 (keywordEach [] X.env)).all (fun x => x.1.isSome) && decide (([e] : List Expr).length + ([] : List Keyword).length + (if ([] : List Keyword).isEmpty then 0 else 1) < 30)) = true := by rfl)
    (hline : (p2.endLine == p3.line) = true := by rfl) (hst : (backTo p3 (starEach ([] : List Expr) X.env)).any (·.1) = false := by rfl) :
    Run X T (.Expr (.Call (.Attribute (.Name x p1) "append" p2) [e] [] p3) pos :: rest) S k := fun B R σ H I D L => by
  obtain ⟨v, f1, a, ys, g1, g2, g3, g4, g5, g6⟩ := I.sl i _ hi
  subst g1
  refine seq_of (ps_expr (pe_bm PySem.F.plainAttrs_list PySem.F.slot_list_append PySem.F.type_list_append mt_append (pe_var hN hv hd hcd) (pa_cons pe_wp pa_nil hse) hbase hfew hline hse hst) hs) ?_
  refine ⟨.ref a, f1, .inl ⟨rfl, _, SqL.of g2⟩, h B R σ H I _ fun R' w H' d b k1 I' r' => ?_⟩
  obtain ⟨v2, f2, a2, ys2, q1, q2, q3, q4, q5, q6⟩ := I'.sl i _ hi
  subst q1
  rw [f1] at f2; cases f2
  exact ⟨a, ys2, w, rfl, rfl, q2, by rw [q3.length]; exact hz, k1 B R' σ _ (I'.putM hi f1 (q3.append (.cons r' .nil))) D L⟩
/-- town.append(0) -/
theorem run_town (i : Nat) {t : Addr} (hT : T = some t) {b' : Nat} (hi : S.sl[i]? = some (some .town)) (hb : S.b = b' + 1) (h : EvP X T e S.drp d) (q : Run X T rest ⟨b', S.sl⟩ k)
    (hN : X.N[i]? = some x := by rfl) (hv : Vis X.env.scope x := by first | exact Or.inl rfl | exact Or.inr (Or.inl rfl) | exact Or.inr (Or.inr rfl)) (hd : (x == ("__debug__" : Str)) = false := by decide) (hcd : (x == ("__classdict__" : Str)) = false := by decide)
    (hs : swapsWith (.Call (.Attribute (.Name x p1) "append" p2) [e] [] p3) none pos.line X.env = pure false := by rfl) (hse : starEach [e] X.env = (false, eval e X.env) :: starEach [] X.env := by rfl)
    (hbase : attributeBase (.Name x p1) "append" X.env (eval (.Name x p1) X.env) = eval (.Name x p1) X.env := by rfl)
    (hfew : ((backTo p3 (starEach [e] X.env)).all (fun x => !x.1) && (backToKw p3 (keywordEach [] X.env)).all (fun x => x.1.isSome) && decide (([e] : List Expr).length + ([] : List Keyword).length + (if ([] : List Keyword).isEmpty then 0 else 1) < 30)) = true := by rfl)
    (hline : (p2.endLine == p3.line) = true := by rfl) (hst : (backTo p3 (starEach ([] : List Expr) X.env)).any (·.1) = false := by rfl) :
    Run X T (.Expr (.Call (.Attribute (.Name x p1) "append" p2) [e] [] p3) pos :: rest) S k := fun B R σ H I D L => by
  subst hT
  obtain ⟨v, f1, t', et, g1⟩ := I.sl i _ hi
  cases et
  subst g1
  obtain ⟨w1, zs, w2, w3⟩ := I.tw t rfl
  refine seq_of (ps_expr (pe_bm PySem.F.plainAttrs_list PySem.F.slot_list_append PySem.F.type_list_append mt_append (pe_var hN hv hd hcd) (pa_cons pe_wp pa_nil hse) hbase hfew hline hse hst) hs) ?_
  refine ⟨.ref t, f1, .inl ⟨rfl, _, SqL.of w2⟩, h R σ H I.drp _ fun R' w H' d' b k1 I' n' r' => ?_⟩
  obtain ⟨e1, e2⟩ := k1; subst e1 e2
  have I2 := I.after I'.le n' I'.tw
  obtain ⟨u1, us, u2, u3⟩ := I2.tw t rfl
  have u3' : us.length + S.b ≤ sizeLine := u3
  refine ⟨t, us, w, rfl, rfl, u2, by omega, q B R' σ _ ⟨I2.le.muts u1, ⟨fun a o na ha => ?_, I2.n.lr, I2.n.av⟩, fun t2 et2 => ?_, I2.len, fun j s es => ?_, I2.sep⟩ D L⟩
  · rw [upd_ne fun z => na (by rw [z])]
    exact I2.n.lx a o na ha
  · cases et2
    refine ⟨u1, us ++ [w], upd_same, ?_⟩
    rw [List.length_append]
    show us.length + 1 + b' ≤ sizeLine
    omega
  · obtain ⟨v2, m1, m2⟩ := I2.sl j s es
    refine ⟨v2, m1, ?_⟩
    cases s with
    | mu ds =>
      obtain ⟨a, ys, n1, n2, n3, n4, n5, n6⟩ := m2
      exact ⟨a, ys, n1, by rw [upd_ne fun z => n6 (by rw [z])]; exact n2, n3, n4, n5, n6⟩
    | dat d => exact m2
    | town => exact m2
    | scr ns => exact m2
end
/-- x = e -/
theorem run_asgS (i : Nat) {x : Str} (h : EvS X T e S fun d b => Run X T rest ⟨b, S.sl.set i (some (.dat d))⟩ k) (hN : X.N.Nodup) (hi : X.N[i]? = some x := by rfl) (hx : Loc X.env.scope x := by first | exact .inl rfl | exact .inr rfl) (hf : X.fn x = true ∨ X.env.scope.names.lookup x = some .local := by first | exact .inl rfl | exact .inr rfl)
    (hs : swapsWith e (some (.Name x pos')) pos.line X.env = pure false := by rfl) : Run X T (.Assign [.Name x pos'] e pos :: rest) S k := fun B R σ H I D L =>
  seq_of (ps_set (i := i) hN hi hx pe_wp hs hf) (h B R σ H I _ fun R1 v H1 d b k1 I1 r1 => k1 B R1 _ H1 (I1.setOne r1) D L)
theorem run_retS (h : EvS X T e S fun d b => k.rt d b) : Run X T (.Return (some e) pos :: rest) S k := fun B R σ H I D L =>
  seq_of (ps_ret pe_wp) (h B R σ H I _ fun R1 v H1 d b k1 I1 r1 => L.rt R1 v H1 d b k1 I1.le I1.n I1.tw r1)
/-- x[j] = e -/
theorem run_setIx (i : Nat) {x : Str} {p1 p2 : Pos} {ds : List PyData} {j : Int} {m : Nat} (hi : S.sl[i]? = some (some (.mu ds))) (he : EvP X T e S.frz d) (hn : noL d = true) (ha : EvP X T a S.frz (.int j)) (hj : ixN ds.length j = some m) (q : Run X T rest ⟨S.b, S.sl.set i (some (.mu (ds.set m d)))⟩ k)
    (hN : X.N[i]? = some x := by rfl) (hv : Vis X.env.scope x := by first | exact Or.inl rfl | exact Or.inr (Or.inl rfl) | exact Or.inr (Or.inr rfl)) (hd : (x == ("__debug__" : Str)) = false := by decide) (hcd : (x == ("__classdict__" : Str)) = false := by decide)
    (has : ∀ v, assign (.Subscript (.Name x p1) a p2) X.env v = (do
      let ov ← holding [v] (eval (.Name x p1) X.env)
      let iv ← holding [v, ov] (eval a X.env)
      standAt p2
      holding [v, ov, iv] (setItem ov iv v)
      release [v, ov, iv] []) := by intro _; rfl)
    (hs : swapsWithSole [.Subscript (.Name x p1) a p2] e pos.line X.env = pure false := by rfl) (hw : swappedStores [.Subscript (.Name x p1) a p2] e X.env = pure none := by rfl)
    (h1 : (assignEach [.Subscript (.Name x p1) a p2] X.env).map (·.2) = [assign (.Subscript (.Name x p1) a p2) X.env] := by rfl) : Run X T (.Assign [.Subscript (.Name x p1) a p2] e pos :: rest) S k := fun B R σ H I D L => by
  obtain ⟨v, f1, a0, ys, g1, g2, g3, g4, g5, g6⟩ := I.sl i _ hi
  subst g1
  refine seq_of (ps_asg pe_wp (pg_sub (pe_var hN hv hd hcd) pe_wp set_list has) hs hw h1) ?_
  have hse : EvS X T e S fun d' b => d' = d ∧ b = S.b := evs_frz he hn ⟨rfl, rfl⟩
  refine hse B R σ H I _ fun R1 w H1 d' b ⟨e1, e2⟩ I1 r1 => ?_
  subst e1 e2
  refine ⟨.ref a0, f1, ?_⟩
  have hsa : EvS X T a S fun d' b => d' = .int j ∧ b = S.b := evs_frz ha rfl ⟨rfl, rfl⟩
  obtain ⟨B', hB, nB, I1'⟩ := I1.here
  refine hsa B' R1 σ H1 I1' _ fun R2 u H2 d2 b2 ⟨e1, e2⟩ I2' r2 => ?_
  subst e1 e2
  cases r2
  have r1' : Rp X.K R2 w _ := r1.le (by have := I2'.n.lr; rw [hB] at this; exact this)
  have I2 := I2'.rebase nB
  obtain ⟨v2, f2, a2, ys2, q1, q2, q3, q4, q5, q6⟩ := I2.sl i _ hi
  subst q1
  rw [f1] at f2; cases f2
  exact ⟨a0, ys2, j, m, rfl, rfl, q2, by rw [q3.length]; exact hj, q B R2 σ _ (I2.putM hi f1 (q3.set m r1')) D L⟩
/-! loops -/
theorem run_for {iter : Expr} {g : TG} {κi : List PyData → Nat → Prop} (hi : EvI X T tg iter S.drp κi) (hg : PG X tg g)
    (h : ∀ xs b, κi xs b → ∃ Pv : Nat → Sta → Prop, Pv 0 ⟨b, S.sl⟩ ∧ (∀ i x S', xs[i]? = some x → Pv i S' → ∃ ps, GS X.K g x ps ∧ Run X T body ⟨S'.b, setD S'.sl ps⟩ { nx := Pv (i + 1), rt := k.rt, ct := Pv (i + 1), bk := fun S2 => Run X T rest S2 k }) ∧ ∀ S', Pv xs.length S' → Run X T rest S' k)
    (hp : PassesOwn (model X.prog X.w) X.A X.env X.xe := by exact PassesOwn.never) (hc : X.calm = true := by rfl) (hs : ∀ x, foldedSetIterable iter X.env x = pure x := by intro _; rfl) : Run X T (.For tg iter body [] pos :: rest) S k := fun B R σ H I D L => by
  obtain ⟨wi, hpi, hwi⟩ := hi
  refine seq_of (ps_for hp hc hpi hg pss_wp hs) (hwi R σ H I.drp _ fun J R1 H1 xs b k1 I1 n1 W => ?_)
  obtain ⟨Pv, p0, step, fin⟩ := h xs b k1
  obtain ⟨B', hB, nB, I0⟩ := (I.after I1.le n1 I1.tw).here
  have LR : Lift X.K B' T k D := L.rebase nB
  refine ⟨fun i m σ' H' => m = xs.length - i ∧ i ≤ xs.length ∧ ∃ S' R', Pv i S' ∧ HS X.K B' T S' R' σ' H', ⟨xs.length, rfl, Nat.zero_le _, _, R1, p0, I0⟩, ?_⟩
  rintro i m σ' H' ⟨rfl, hi, S', R', pv, I'⟩
  have le1 : Le R1 H' := by have := I'.n.lr; rw [hB] at this; exact this.trans I'.le
  have le2 : Le R1 R' := by have := I'.n.lr; rw [hB] at this; exact this
  by_cases hlt : i < xs.length
  · have hx : xs[i]? = some xs[i] := List.getElem?_eq_getElem hlt
    obtain ⟨ps, hgs, hrun⟩ := step i xs[i] S' hx pv
    obtain ⟨hgo, hy⟩ := W.go i H' xs[i] le1 hx
    refine .inr ⟨hgo, fun σ2 H2 => ∃ S2 R2, Pv (i + 1) S2 ∧ HS X.K B' T S2 R2 σ2 H2, fun σ2 H2 hN => ⟨xs.length - (i + 1), by omega, rfl, hlt, hN⟩, fun v H2 hyl => ?_⟩
    have LB : Lift X.K B' T { nx := Pv (i + 1), rt := k.rt, ct := Pv (i + 1), bk := fun S2 => Run X T rest S2 k } { nx := fun σ2 H2 => ∃ S2 R2, Pv (i + 1) S2 ∧ HS X.K B' T S2 R2 σ2 H2, rt := D.rt, ct := fun σ2 H2 => ∃ S2 R2, Pv (i + 1) S2 ∧ HS X.K B' T S2 R2 σ2 H2, bk := wpSs X rest D } :=
      ⟨fun S2 R2 σ2 H2 q I2 => ⟨S2, R2, q, I2⟩, fun S2 R2 σ2 H2 q I2 => q B' R2 σ2 H2 I2 D LR, fun S2 R2 σ2 H2 q I2 => ⟨S2, R2, q, I2⟩, LR.rt⟩
    rcases hy v H2 hyl with ⟨e1, r1⟩ | ⟨p, us, ds, e1, e2, e3, e4, r1⟩
    · subst e1
      exact hgs R' σ' H2 v _ I'.le (r1.le le2) fun ws rw' => hrun B' R' _ H2 (I'.setAll ps rw') _ LB
    · subst e1 e3
      have I2 := I'.laid2 (o := .tup us) e2
      refine hgs _ σ' _ _ _ I2.le ?_ fun ws rw' => hrun B' _ _ _ (I2.setAll ps rw') _ LB
      rw [e4]
      exact .tup (SqT.of upd_same) ((r1.le le2).le (Le.upd (I'.le.fre e2)))
  · have ei : i = xs.length := by omega
    subst ei
    exact .inl ⟨W.stop _ H' le1 (Nat.le_refl _), fin S' pv B' R' σ' H' I' D LR⟩
theorem run_while (Pv : Nat → Sta → Prop) (m0 : Nat) (h0 : Pv m0 S)
    (h : ∀ m S', Pv m S' → ∃ p, EvT X T c S'.frz p ∧ (p = true → Run X T body S' { nx := fun S2 => ∃ m', m' < m ∧ Pv m' S2, rt := k.rt, ct := fun S2 => ∃ m', m' < m ∧ Pv m' S2, bk := fun S2 => Run X T rest S2 k }) ∧ (p = false → Run X T rest S' k))
    (hp : PassesOwn (model X.prog X.w) X.A X.env X.xe := by exact PassesOwn.never) : Run X T (.While c body [] pos :: rest) S k := fun B R σ H I D L => by
  refine seq_of (ps_while hp pt_wp pss_wp) ⟨fun m σ' H' => ∃ S' R', Pv m S' ∧ HS X.K B T S' R' σ' H', ⟨m0, S, R, h0, I⟩, ?_⟩
  rintro m σ' H' ⟨S', R', pv, I'⟩
  obtain ⟨p, ht, h1, h2⟩ := h m S' pv
  refine ht _ σ' H' I'.frz _ fun R1 H1 I1 n1 => ?_
  obtain ⟨t1, t2, t3, t4⟩ := I'.thaw I1.le n1
  have I2 : HS X.K B T S' _ σ' H1 := I'.after t1 t2 (t4 I1.tw)
  cases p with
  | true =>
    refine iteT ⟨fun σ2 H2 => ∃ m' S2 R2, m' < m ∧ Pv m' S2 ∧ HS X.K B T S2 R2 σ2 H2, fun σ2 H2 ⟨m', S2, R2, q1, q2, q3⟩ => ⟨m', q1, S2, R2, q2, q3⟩, ?_⟩
    exact h1 rfl B _ σ' H1 I2 _ ⟨fun S2 R2 σ2 H2 ⟨m', q1, q2⟩ q3 => ⟨m', S2, R2, q1, q2, q3⟩, fun S2 R2 σ2 H2 q I3 => q B R2 σ2 H2 I3 D L, fun S2 R2 σ2 H2 ⟨m', q1, q2⟩ q3 => ⟨m', S2, R2, q1, q2, q3⟩, L.rt⟩
  | false => exact iteF (h2 rfl B _ σ' H1 I2 D L)
/-- a, b = e, f; a, b, c = e, f, g -/
theorem run_par2 (i j : Nat) {x y : Str} {px py pt pt2 : Pos} {kt k2 : Nat} (ha : EvA X T [a, b] S.drp fun ds n => ∃ d1 d2, ds = [d1, d2] ∧ Run X T rest ⟨n, (S.sl.set i (some (.dat d1))).set j (some (.dat d2))⟩ k) (hN : X.N.Nodup) (hij : i ≠ j := by decide) (hi : X.N[i]? = some x := by rfl) (hj : X.N[j]? = some y := by rfl)
    (hx : X.env.scope.names.lookup x = some .local := by rfl) (hy : X.env.scope.names.lookup y = some .local := by rfl) (hw : swappedStores [.Tuple [.Name x px, .Name y py] kt pt] (.Tuple [a, b] k2 pt2) X.env = pure (some [x, y]) := by rfl)
    (hs : swapsWithSole [.Tuple [.Name x px, .Name y py] kt pt] (.Tuple [a, b] k2 pt2) pos.line X.env = pure false := by rfl) (hc : X.calm = true := by rfl) :
    Run X T (.Assign [.Tuple [.Name x px, .Name y py] kt pt] (.Tuple [a, b] k2 pt2) pos :: rest) S k := fun B R σ H I D L => by
  refine seq_of (ps_par hc hN hi hj hij hx hy pa_wp hw hs) (ha R σ H I.drp _ fun R1 vs H1 ds n k1 I1 n1 r1 => ?_)
  obtain ⟨d1, d2, e1, q⟩ := k1
  subst e1
  obtain ⟨v1, v2, rfl, r1, r2⟩ := r1.two
  exact ⟨v1, v2, rfl, q B R1 _ H1 (((I.after I1.le n1 I1.tw).setOne (i := i) r1).setOne (i := j) r2) D L⟩
theorem run_par3 (i j l : Nat) {f : Expr} {x y z : Str} {px py pz pt pt2 : Pos} {kt k2 : Nat} (ha : EvA X T [a, b, f] S.drp fun ds n => ∃ d1 d2 d3, ds = [d1, d2, d3] ∧ Run X T rest ⟨n, ((S.sl.set i (some (.dat d1))).set j (some (.dat d2))).set l (some (.dat d3))⟩ k) (hN : X.N.Nodup)
    (hij : i ≠ j := by decide) (hil : i ≠ l := by decide) (hjl : j ≠ l := by decide) (hi : X.N[i]? = some x := by rfl) (hj : X.N[j]? = some y := by rfl) (hl : X.N[l]? = some z := by rfl)
    (hx : X.env.scope.names.lookup x = some .local := by rfl) (hy : X.env.scope.names.lookup y = some .local := by rfl) (hz : X.env.scope.names.lookup z = some .local := by rfl)
    (hw : swappedStores [.Tuple [.Name x px, .Name y py, .Name z pz] kt pt] (.Tuple [a, b, f] k2 pt2) X.env = pure (some [x, y, z]) := by rfl)
    (hs : swapsWithSole [.Tuple [.Name x px, .Name y py, .Name z pz] kt pt] (.Tuple [a, b, f] k2 pt2) pos.line X.env = pure false := by rfl) (hc : X.calm = true := by rfl) :
    Run X T (.Assign [.Tuple [.Name x px, .Name y py, .Name z pz] kt pt] (.Tuple [a, b, f] k2 pt2) pos :: rest) S k := fun B R σ H I D L => by
  refine seq_of (ps_par3 hc hN hi hj hl hij hil hjl hx hy hz pa_wp hw hs) (ha R σ H I.drp _ fun R1 vs H1 ds n k1 I1 n1 r1 => ?_)
  obtain ⟨d1, d2, d3, e1, q⟩ := k1
  subst e1
  cases r1 with
  | cons r1 r2 =>
    obtain ⟨v2, v3, rfl, r2, r3⟩ := r2.two
    exact ⟨_, v2, v3, rfl, q B R1 _ H1 ((((I.after I1.le n1 I1.tw).setOne (i := i) r1).setOne (i := j) r2).setOne (i := l) r3) D L⟩
/-- a target taken apart -/
theorem run_take {g : TG} {ps : PyData → List (Nat × PyData)} (h : Ev X T e S.drp fun d b => ∃ ps, GS X.K g d ps ∧ Run X T rest ⟨b, setD S.sl ps⟩ k) (hg : PG X tg g) (hs : swapsWithSole [tg] e pos.line X.env = pure false := by rfl) (hw : swappedStores [tg] e X.env = pure none := by rfl)
    (h1 : (assignEach [tg] X.env).map (·.2) = [assign tg X.env] := by rfl) : Run X T (.Assign [tg] e pos :: rest) S k := fun B R σ H I D L => by
  refine seq_of (ps_asg pe_wp hg hs hw h1) (h R σ H I.drp _ fun R1 v H1 d b k1 I1 n1 r1 => ?_)
  obtain ⟨ps, hgs, q⟩ := k1
  exact hgs R1 σ H1 v _ I1.le r1 fun ws rw' => q B R1 _ H1 ((I.after I1.le n1 I1.tw).setAll ps rw') D L
end

/-! ### functions -/
def startS (n : Nat) (ss : List Sl) : Sls := ss.map some ++ List.replicate (n - ss.length) none
theorem start_get {N : List Str} {vs : List V} {i : Nat} {v : V} (h : vs[i]? = some v) : (start N vs)[i]? = some (some v) := by
  unfold L2.start
  have hi : i < (vs.map some).length := by rw [List.length_map]; exact (List.getElem?_eq_some_iff.mp h).1
  rw [List.getElem?_append_left hi, List.getElem?_map, h] <;> rfl
theorem startS_get {n : Nat} {ss : List Sl} {i : Nat} {s : Sl} (h : (startS n ss)[i]? = some (some s)) : ss[i]? = some s := by
  unfold startS at h
  by_cases hi : i < (ss.map some).length
  · rw [List.getElem?_append_left hi, List.getElem?_map] at h
    cases w : ss[i]? with
    | none => rw [w] at h; cases h
    | some t => rw [w] at h; cases h; rfl
  · rw [List.getElem?_append_right (by omega)] at h
    have := List.mem_of_getElem? h
    rw [List.mem_replicate] at this
    cases this.2
theorem paired_getS {K : PySem.W.Frag} {T : Option Addr} {R : Hp} : ∀ {ss : List Sl} {vs : List V} {i : Nat} {s : Sl}, Paired (SE K T R) ss vs → ss[i]? = some s → ∃ v, vs[i]? = some v ∧ SE K T R s v
  | _, _, _, _, .nil, e => by simp at e
  | _, _, 0, _, .cons r _, e => by cases Option.some.inj e; exact ⟨_, rfl, r⟩
  | _, _, i + 1, _, .cons _ t, e => paired_getS (i := i) t e
section
variable {P : Program} {w : World} {K : PySem.W.Frag} {mg : Str → Option Value} {base : Heap}
theorem hs_start {T : Option Addr} {N : List Str} {ss : List Sl} {vs : List V} {R H : Hp} {b : Nat} (le : Le R H) (tw : TwE T b R H) (r : Paired (SE K T R) ss vs) (hl : vs.length ≤ N.length) : HS K ⟨R, H⟩ T ⟨b, startS N.length ss⟩ R (start N vs) H := by
  have hlen : ss.length = vs.length := Paired.length r
  refine ⟨le, Nx.refl, tw, ?_, fun i s e => ?_, fun i j ds es a _ e1 _ _ => ?_⟩
  · show (startS N.length ss).length ≤ (start N vs).length
    unfold startS L2.start
    rw [List.length_append, List.length_append, List.length_map, List.length_map, List.length_replicate, List.length_replicate]
    omega
  · obtain ⟨v, e1, q⟩ := paired_getS r (startS_get e)
    exact ⟨v, start_get e1, SS.of q⟩
  · obtain ⟨v, _, q⟩ := paired_getS r (startS_get e1)
    exact (show False from q).elim
theorem paired_dat {T : Option Addr} {R : Hp} : ∀ {ds : List PyData} {vs : List V}, RpA K R vs ds → Paired (SE K T R) (ds.map Sl.dat) vs
  | [], _, h => by cases h; exact .nil
  | d :: ds, _, h => by
    cases h with
    | cons a b => exact .cons a (paired_dat b)
theorem fn_ok {x qual : Str} {st : Stmt} {f : Addr} {fd : FuncData} {N ps : List Str} {k : Nat} {sp : List PyData → (PyData → Prop) → Prop} (F : Fun K x qual st f fd) (Sc : FnScope N ps (defScope st)) (len : ∀ ds κ, sp ds κ → ds.length = ps.length)
    (body : ∀ (cdv : Value) (A : Around) (outer : List Env) (s : Shared) (H : Hp) (E : XK), Room k (A.deeper (envOfC qual (defScope st) s.heap.objs.size f cdv)) → ∀ ds κ, sp ds κ →
      Run (cxOf CX0 P w K mg base N qual (defScope st) f cdv A outer s H E).nox none (defBody st) ⟨0, startS N.length (ds.map Sl.dat)⟩ ⟨fun _ => κ .none, fun d _ => κ d, fun _ => False, fun _ => False⟩) : FnOk P w K mg base CX0 (k + 1) f fd ps (lift K sp) := by
  have hps : ps.length ≤ N.length := by rw [← Sc.pre, List.length_take]; omega
  refine F.ok Sc (fun vs H Q E h => ?_) (fun cdv A outer s H vs Q E hr h => ?_)
  · obtain ⟨R, ds, le, r, h⟩ := h
    rw [r.length]; exact len _ _ h
  · obtain ⟨R, ds, le, r, h⟩ := h
    refine ⟨_, pss_wp, ?_⟩
    have hv : vs.length ≤ N.length := by rw [r.length, len _ _ h]; exact hps
    refine body cdv A outer s H E hr ds _ h ⟨R, H⟩ R (start N vs) H (hs_start le (fun t z => nomatch z) (paired_dat r) hv) _ ⟨fun S R' σ' H' q I => q R' .non H' I.n I.le .non, fun S R' σ' H' q I => q, fun S R' σ' H' q I => q, fun R' v H' d b q le' n' tw' r' => q R' v H' n' le' r'⟩
theorem fn_okT {x qual : Str} {st : Stmt} {f : Addr} {fd : FuncData} {N ps : List Str} {k : Nat} {sp : List Sl → Nat → (PyData → Nat → Prop) → Prop} (F : Fun K x qual st f fd) (Sc : FnScope N ps (defScope st)) (len : ∀ ds b κ, sp ds b κ → ds.length = ps.length)
    (body : ∀ (cdv : Value) (A : Around) (outer : List Env) (s : Shared) (H : Hp) (E : XK), Room k (A.deeper (envOfC qual (defScope st) s.heap.objs.size f cdv)) → ∀ ds b κ t, sp ds b κ →
      Run (cxOf CX0 P w K mg base N qual (defScope st) f cdv A outer s H E).nox (some t) (defBody st) ⟨b, startS N.length ds⟩ ⟨fun S => κ .none S.b, fun d b => κ d b, fun _ => False, fun _ => False⟩) : FnOk P w K mg base CX0 (k + 1) f fd ps (liftT K sp) := by
  have hps : ps.length ≤ N.length := by rw [← Sc.pre, List.length_take]; omega
  refine F.ok Sc (fun vs H Q E h => ?_) (fun cdv A outer s H vs Q E hr h => ?_)
  · obtain ⟨R, t, b, ss, le, tw, r, h⟩ := h
    rw [← Paired.length r]; exact len _ _ _ h
  · obtain ⟨R, t, b, ss, le, tw, r, h⟩ := h
    refine ⟨_, pss_wp, ?_⟩
    have hv : vs.length ≤ N.length := by rw [← Paired.length r, len _ _ _ h]; exact hps
    exact body cdv A outer s H E hr ss b _ t h ⟨R, H⟩ R (start N vs) H (hs_start le tw r hv) _ ⟨fun S R' σ' H' q I => q R' .non H' I.n I.le I.tw .non, fun S R' σ' H' q I => q, fun S R' σ' H' q I => q, fun R' v H' d b q le' n' tw' r' => q R' v H' n' le' tw' r'⟩
/-- the law: the script's ints come, True goes -/
def spLaw (K : PySem.W.Frag) : Sp := fun vs H Q _ => ∃ (a : Addr) (ns : List Int), vs = [.ref a] ∧ SqL K H a (ns.map V.int) ∧ ns.length ≤ 63 ∧ ∀ H', Q (.bl true) H'
theorem fn_law {x qual : Str} {st : Stmt} {f : Addr} {fd : FuncData} {N : List Str} {p : Str} {k : Nat} (F : Fun K x qual st f fd) (Sc : FnScope N [p] (defScope st))
    (body : ∀ (cdv : Value) (A : Around) (outer : List Env) (s : Shared) (H : Hp) (E : XK), Room k (A.deeper (envOfC qual (defScope st) s.heap.objs.size f cdv)) → ∀ ns : List Int, ns.length ≤ 63 →
      Run (cxOf CX0 P w K mg base N qual (defScope st) f cdv A outer s H E).nox none (defBody st) ⟨0, startS N.length [.scr ns]⟩ ⟨fun _ => False, fun d _ => d = .bool true, fun _ => False, fun _ => False⟩) : FnOk P w K mg base CX0 (k + 1) f fd [p] (spLaw K) := by
  have hps : [p].length ≤ N.length := by rw [← Sc.pre, List.length_take]; omega
  refine F.ok Sc (fun vs H Q E h => ?_) (fun cdv A outer s H vs Q E hr h => ?_)
  · obtain ⟨a, ns, rfl, _⟩ := h
    rfl
  · obtain ⟨a, ns, rfl, hS, hl, q⟩ := h
    refine ⟨_, pss_wp, ?_⟩
    refine body cdv A outer s H E hr ns hl ⟨H, H⟩ H (start N [.ref a]) H (hs_start (ss := [.scr ns]) (Le.refl H) (fun t z => nomatch z) (.cons ⟨a, rfl, hS⟩ .nil) hps) _ ⟨fun S R' σ' H' q' I => q'.elim, fun S R' σ' H' q I => q, fun S R' σ' H' q I => q, fun R' v H' d b q' le' n' tw' r' => ?_⟩
    subst q'
    cases r'
    exact q H'
end
section
variable {X : Cx} {S : Sta} {k : KD} {e : Expr} {rest : List Stmt} {pos pos' p2 : Pos} {T : Option Addr}
/-- town = []: the town is founded -/
theorem run_found (i : Nat) {x : Str} (b : Nat) (hb : b ≤ sizeLine) (q : ∀ t, Run X (some t) rest ⟨b, S.sl.set i (some .town)⟩ { k with nx := fun _ => False, bk := fun _ => False, ct := fun _ => False }) (hm : ∀ (j : Nat) (ds : List PyData), S.sl[j]? ≠ some (some (.mu ds))) (hN : X.N.Nodup) (hi : X.N[i]? = some x := by rfl) (hx : Loc X.env.scope x := by first | exact .inl rfl | exact .inr rfl)
    (hf : X.fn x = true ∨ X.env.scope.names.lookup x = some .local := by first | exact .inl rfl | exact .inr rfl) : Run X none (.Assign [.Name x pos'] (.List [] p2) pos :: rest) S k := fun B R σ H I D L => by
  refine seq_of (ps_set (i := i) hN hi hx (pe_lst pa_nil) rfl hf) ⟨Nat.zero_le _, fun t ht => ?_⟩
  have h0 : B.H0 t = none := I.n.none_of (fun z => nomatch z) ht
  have hl : S.sl.length ≤ σ.length := I.len
  have self : ∀ (s : Sl), (S.sl.set i (some .town))[i]? = some (some s) → s = .town ∧ i < S.sl.length := fun s e => by
    by_cases hk : i < S.sl.length
    · rw [List.getElem?_set_self hk] at e
      exact ⟨(Option.some.inj (Option.some.inj e)).symm, hk⟩
    · rw [List.getElem?_eq_none (by rw [List.length_set]; omega)] at e; cases e
  refine q t B R _ _ ⟨I.le.muts (I.le.fre ht), ⟨fun a o na ha => ?_, I.n.lr, fun a _ ha hr => I.n.av a (fun z => nomatch z) ha hr⟩, fun t' et => ?_, by show (S.sl.set i _).length ≤ _; rw [List.length_set, List.length_set]; exact hl, fun j s e => ?_, fun j l ds es a hjl e1 e2 e3 => ?_⟩ D ⟨fun _ _ _ _ z => z.elim, fun _ _ _ _ z => z.elim, fun _ _ _ _ z => z.elim, fun R' v H' d b' hk le' n' tw' r' => L.rt R' v H' d b' hk le' ⟨fun a o _ ha => ?_, n'.lr, fun a _ ha hr => ?_⟩ (fun t z => nomatch z) r'⟩
  · rw [upd_ne fun z => by rw [z, h0] at ha; cases ha]
    exact I.n.lx a o (fun z => nomatch z) ha
  · cases et
    exact ⟨I.le.fre ht, [], upd_same, by show 0 + b ≤ sizeLine; omega⟩
  · by_cases hj : j = i
    · subst hj
      obtain ⟨e2, hk⟩ := self s e
      subst e2
      exact ⟨.ref t, by rw [List.getElem?_set_self (by omega)], t, rfl, rfl⟩
    · have e' : S.sl[j]? = some (some s) := by
        have : (S.sl.set i (some .town))[j]? = some (some s) := e
        rwa [List.getElem?_set_ne (Ne.symm hj)] at this
      obtain ⟨v, f1, f2⟩ := I.sl j s e'
      refine ⟨v, by rw [List.getElem?_set_ne (Ne.symm hj)]; exact f1, ?_⟩
      cases s with
      | mu ds => exact absurd e' (hm j ds)
      | dat d => exact f2
      | town => obtain ⟨t', z, _⟩ := f2; cases z
      | scr ns => exact f2
  · by_cases hj : j = i
    · subst hj; cases (self _ e1).1
    · have e' : S.sl[j]? = some (some (.mu ds)) := by
        have : (S.sl.set i (some .town))[j]? = some (some (.mu ds)) := e1
        rwa [List.getElem?_set_ne (Ne.symm hj)] at this
      exact absurd e' (hm j ds)
  · exact n'.lx a o (fun z => by cases z; rw [h0] at ha; cases ha) ha
  · exact n'.av a (fun z => by cases z; exact ha h0) ha hr
end
end PL
set_option maxHeartbeats 4000000
namespace PL
open PySem PySem.Spec PyProof.Rows L2 RZ
/-! ### sum of a tuple of ints -/
section
variable {prog : Program} {w : World} {A : Around} {E : Value → Shared → Prop} {s : Shared} {l : Addr} {its : List Value} {ns : List Int} {Q : Value → Shared → Prop}
theorem sum_rawT (hh : A.handled = none) (hl : s.heap.IsTuple l its.toArray) (hi : IntsAre its ns)
    (h : ∀ h' tk t', (∀ b o, s.heap.get? b = some o → h'.get? b = some o) → Q (.int ns.sum t') { s with heap := h', toks := tk }) : wpAny (model prog w) A (call (.builtin "sum") [.ref l]) Q E s := by
  obtain ⟨xs, e⟩ := hi.allInts.items
  have hn : numsOf (intItems xs).toList = ns := by rw [← e]; exact hi.numsOf
  rw [nums_intItems] at hn
  rw [e] at hl
  have hlt : l < s.heap.objs.size := by obtain ⟨_, e, _⟩ := hl; exact Heap.lt_size e
  refine call_sum_walkG (wpAny_pyIter_tuple hl ?_)
  refine ⟨_, _, _, _, _, _, numAt xs, rfl, Walks.tuple (A := A.in1) hh s.heap.objs.size l (Nat.ne_of_lt hlt) (intItems xs), ⟨⟨_, Heap.get?_push_size _ rfl, rfl, rfl⟩, ?_⟩, fun b hb => ?_, (fun _ _ => intItems_at), fun h' tk t' hk => ?_⟩
  · obtain ⟨o, ho, r⟩ := hl
    exact ⟨o, Heap.get?_push_of_some _ ho, r⟩
  · show b < (s.heap.push _).objs.size
    rw [Heap.size_push]
    rcases List.mem_cons.mp hb with rfl | hb
    · exact Nat.lt_succ_self _
    · rcases List.mem_cons.mp hb with rfl | hb
      · exact Nat.lt_succ_of_lt hlt
      · cases hb
  · have := h h' tk t' fun b o e => hk b o (fun z => by
      have : b = s.heap.objs.size := by simpa using z
      subst this
      exact absurd (Heap.lt_size e) (Nat.lt_irrefl _)) (Heap.get?_push_of_some _ e)
    have e2 : preSum (numAt xs) (intItems xs).size = ns.sum := by
      have e3 : (intItems xs).size = xs.size := by simp [intItems]
      rw [e3, preSum_eq, List.take_of_length_le (by simp), hn]
    rw [e2]
    exact this
end
section
variable {X : Cx} {T : Option Addr} {S : Sta} {e : Expr} {pos : Pos} {d : PyData}
theorem cr_sumT (hc : X.calm = true) : CallR X (.builtin "sum") (fun vs H Q => ∃ (a : Addr) (ns : List Int), vs = [V.ref a] ∧ SqT X.K H a (ns.map V.int) ∧ Q (.int ns.sum) H) := by
  intro pins s σ H vs us Q I r h
  obtain ⟨a, ns, rfl, hs, q⟩ := h
  obtain ⟨its, rv, hl, _⟩ := I.tuple hs
  rw [Vals.ref1 r]
  exact sum_rawT (I.ok.hd hc) hl rv.ints fun h' tk t' hk => ⟨.int _, H, I.kept hk, ⟨_, rfl⟩, q⟩
theorem cd_sumT {ns : List Int} (hc : X.calm = true := by rfl) : CallD X T (.builtin "sum") [.tuple (ns.map .int)] (.int ns.sum) := fun S R σ H vs Q I r q => by
  obtain ⟨v, rfl, r1⟩ := r.one
  cases r1 with
  | @tup a xs _ h r =>
    rw [r.ints] at h
    exact ⟨_, cr_sumT hc, a, ns, rfl, le_t I.le h, q R _ H I Nx.refl (.int _)⟩
end

/-! ### t[::-1] -/
section
variable {prog : Program} {w : World} {A : Around} {E : Value → Shared → Prop} {s : Shared}
theorem sliceApplied_rev {sl : Addr} {u : Tok} {n : Nat} {Q : Int × Int × Nat → Shared → Prop} (hs : s.heap.IsSliceOf sl .none .none (.int (-1) u)) (h : Q ((n : Int) - 1, -1, n) s) :
    wpAny (model prog w) A (Builtin.Slice.sliceApplied (.ref sl) (pure (n : Int))) Q E s := by
  obtain ⟨os, hos, hcs, hds⟩ := id hs
  unfold Builtin.Slice.sliceApplied Builtin.Slice.sliceFields
  refine wpAny_bind (wpAny_bind (wpAny_field hos hds (x := .none) rfl (wpAny_bind (wpAny_field hos hds (x := .none) rfl (wpAny_bind (wpAny_field hos hds (x := .int (-1) u) rfl (wpAny_pure ?_)))))))
  refine wpAny_bind (slicePart_int ?_)
  show wpAny _ _ (if ((-1 : Int) == 0) = true then _ else _) _ _ s
  rw [if_neg (by decide)]
  refine wpAny_bind (slicePart_none (wpAny_bind (slicePart_none (wpAny_bind (wpAny_pure ?_)))))
  show wpAny _ _ (pure ((n : Int) - 1, (-1 : Int), Builtin.Slice.slicePlaces ((n : Int) - 1) (-1) (-1))) _ _ s
  have e : Builtin.Slice.slicePlaces ((n : Int) - 1) (-1) (-1) = n := by
    unfold Builtin.Slice.slicePlaces
    rw [if_neg (by decide)]
    split
    · have : (n : Int) - 1 - -1 - 1 = (n : Int) - 1 := by omega
      rw [this]
      show (((n : Int) - 1) / 1 + 1).toNat = n
      rw [Int.ediv_one]; omega
    · show (0 : Int).toNat = n
      omega
  rw [e]
  exact wpAny_pure h
theorem pick_rev (xs : Array Value) : ((List.range xs.size).filterMap fun (k : Nat) => xs[(((xs.size : Int) - 1) + (k : Int) * (-1)).toNat]?).toArray = xs.toList.reverse.toArray := by
  congr 1
  obtain ⟨l⟩ := xs
  show (List.range l.length).filterMap (fun (k : Nat) => l.toArray[(((l.length : Int) - 1) + (k : Int) * (-1)).toNat]?) = l.reverse
  apply List.ext_getElem?
  intro i
  have key : ∀ n, n ≤ l.length → (List.range n).filterMap (fun (k : Nat) => l.toArray[(((l.length : Int) - 1) + (k : Int) * (-1)).toNat]?) = l.reverse.take n := by
    intro n
    induction n with
    | zero => intro _; simp
    | succ n ih =>
      intro hn
      rw [List.range_succ, List.filterMap_append, ih (by omega), List.take_add_one]
      congr 1
      have e : (((l.length : Int) - 1) + (n : Int) * (-1)).toNat = l.length - 1 - n := by omega
      rw [List.filterMap_cons, e]
      have e2 : l.toArray[l.length - 1 - n]? = some l[l.length - 1 - n] := by
        rw [List.getElem?_toArray, List.getElem?_eq_getElem (by omega)]
      rw [e2, List.getElem?_reverse (by omega), List.getElem?_eq_getElem (by omega)]
      rfl
  rw [key l.length (Nat.le_refl _), List.take_of_length_le (by simp)]
theorem getItem_tuple_rev {t sl : Addr} {items : Array Value} {u : Tok} {Q : Value → Shared → Prop} (ht : IsTup s.heap t items) (hs : s.heap.IsSliceOf sl .none .none (.int (-1) u))
    (h : Q (.ref s.heap.objs.size) { s with heap := s.heap.push { cls := .type "tuple", data := .seq items.toList.reverse.toArray } }) (hsz : items.size ≤ sizeLine) : wpAny (model prog w) A (getItem (.ref t) (.ref sl)) Q E s := by
  have htake : sizeOk (.seq items.toList.reverse.toArray) := by
    show items.toList.reverse.toArray.size ≤ sizeLine
    rw [List.size_toArray, List.length_reverse, Array.length_toList]
    exact hsz
  obtain ⟨os, hos, hcs, hds⟩ := id hs
  have hTs : s.TypeIs (.ref sl) "slice" := ⟨os, hos, hcs⟩
  unfold getItem
  try with_reducible refine wpAny_holding ?_
  first | refine wpAny_bind (wpAny_pure ?_) | skip
  refine wpAny_bind (wpAny_sequenceKey ht.typeIs (by decide) ?_)
  refine wpAny_bind (wpAny_callSpecial?_slot (name := Str.ofString "__getitem__") ht.typeIs PyProof.Rows.slot_tuple_getitem
    (wpAny_call_entry PyProof.Rows.slot_tuple_getitem ht.typeIs entry_tuple_getitem ?_ (args_tuple_getitem _ _)))
  show wpAny _ _ (Builtin.Tuple.tupleItemsOf (.ref t) >>= _) _ _ s
  refine wpAny_bind (tupleItemsOf_ ht ?_)
  refine wpAny_bind (wpAny_typeOf hTs ?_)
  rw [if_pos (by decide)]
  refine wpAny_bind (sliceApplied_rev hs ?_)
  have hno : ¬ ((((items.size : Int) - 1) == 0 && (-1 : Int) == 1 && items.size == items.size) = true) := by
    intro q
    rw [Bool.and_eq_true, Bool.and_eq_true] at q
    exact absurd q.1.2 (by decide)
  show wpAny _ _ (if (((items.size : Int) - 1) == 0 && (-1 : Int) == 1 && items.size == items.size) = true then _ else _) _ _ s
  rw [if_neg hno, pick_rev]
  first
    | exact wpAny_bind (m := Builtin.Tuple.tupleExact _) (wpAny_newObj_type (wpAny_pure ⟨_, rfl, wpAny_pure h⟩) htake)
    | exact wpAny_bind (m := Builtin.Tuple.tupleExact _) (wpAny_newObj_type (wpAny_bind (wpAny_pure (wpAny_pure ⟨_, rfl, wpAny_pure h⟩))) htake)
    | exact wpAny_bind (wpAny_bind (m := Builtin.Tuple.tupleExact _) (wpAny_newObj_type (wpAny_pure (wpAny_pure ⟨_, rfl, wpAny_pure h⟩)) htake))
    | exact wpAny_bind (wpAny_bind (m := Builtin.Tuple.tupleExact _) (wpAny_newObj_type (wpAny_pure ⟨_, rfl, wpAny_pure h⟩) htake))
end
section
variable {X : Cx} {T : Option Addr} {S : Sta} {e : Expr} {pos : Pos} {d : PyData}
def tRevT (K : PySem.W.Frag) (te : TE) : TE := fun σ H Q => te σ H fun x H1 => ∃ a xs, x = .ref a ∧ SqT K H1 a xs ∧ ∀ p, H1 p = none → Q (.ref p) (upd H1 p (.tup xs.reverse))
theorem pe_revT {te : TE} {k : Nat} {p1 p2 p3 : Pos} (he : PE X e te) : PE X (.Subscript e (.Slice none none (some (.UnaryOp .USub (.Constant (.int 1) k p1) p2)) p3) pos) (tRevT X.K te) := by
  refine ⟨fun pins s σ H Q I h => ?_⟩
  refine Subscript_ (thn (he.run pins s σ H _ I h) fun v s1 ⟨x, H1, I1, r1, q1⟩ => ?_)
  obtain ⟨a, xs, ex, hx, q⟩ := q1
  subst ex
  cases r1
  have hst : PO X (some (.UnaryOp .USub (.Constant (.int 1) k p1) p2)) (tPart (tUn (rU fun i => .int (-i)) (tC (.int 1)))) := po_some (pe_un un_neg pe_int)
  refine wpAny_Slice (thn (po_none.run pins s1 σ H1 (fun o H2 => o = none ∧ H2 = H1) I1 ⟨rfl, rfl⟩) fun vl s2 ⟨l, H2, I2, pl, el, e2⟩ => ?_)
  subst el e2
  refine thn (po_none.run pins s2 σ H2 (fun o H3 => o = none ∧ H3 = H2) I2 ⟨rfl, rfl⟩) fun vu s3 ⟨u, H3, I3, pu, eu, e3⟩ => ?_
  subst eu e3
  refine thn (hst.run pins s3 σ H3 (fun o H4 => o = some (-1) ∧ H4 = H3) I3 ⟨1, rfl, -1, rfl, rfl, rfl⟩) fun vs s4 ⟨o, H4, I4, ps, eo, e4⟩ => ?_
  subst eo e4
  cases pl
  cases pu
  cases ps with
  | int i t =>
  have I5 : Inv X pins σ H4 { s4 with heap := s4.heap.push { cls := .type "slice", data := .fields #[.none, .none, .int (-1) t] } } := I4.kept (t' := s4.toks) fun b ob q => Heap.get?_push_of_some _ q
  obtain ⟨its, r, ht, hz⟩ := I5.tuple hx
  have hlen := r.length
  show wpAny (model X.prog X.w) X.A (subscriptTail e (.Slice none none (some (.UnaryOp .USub (.Constant (.int 1) k p1) p2)) p3) (.ref a) (.ref s4.heap.objs.size)) (EP X pins σ Q) X.xe { s4 with heap := s4.heap.push { cls := .type "slice", data := .fields #[.none, .none, .int (-1) t] } }
  refine tail_any (ops := [.ref a, .ref s4.heap.objs.size]) ht.typeIs (PyProof.Rows.slot_tuple_getitem.lookup) ?_ (by with_unfolding_all rfl)
  refine getItem_tuple_rev ht (Heap.IsSliceOf.new _ _ _ _) ?_ (by rw [List.size_toArray]; omega)
  refine ⟨.ref _, _, I5.laid (t' := s4.toks) (o := .tup xs.reverse) (fun b ob q => Heap.get?_push_of_some _ q) (Nat.le_refl _) ?_, rfl, q _ (I5.hok.fresh (Nat.le_refl _))⟩
  exact ⟨by rw [List.length_reverse]; exact hz, _, r.reverse, IsTup.new _ _⟩
theorem evp_revT {ds : List PyData} {k : Nat} {p1 p2 p3 : Pos} (h : EvP X T e S (.tuple ds)) : EvP X T (.Subscript e (.Slice none none (some (.UnaryOp .USub (.Constant (.int 1) k p1) p2)) p3) pos) S (.tuple ds.reverse) := fun R σ H I Q q =>
  wpE_of (pe_revT pe_wp) (h R σ H I _ fun R1 v H1 d b ⟨e1, e2⟩ I1 n1 r1 => by
    subst e1 e2
    cases r1 with
    | @tup a xs _ hq hr =>
      exact ⟨a, xs, rfl, le_t I1.le hq, fun p hp => q _ _ _ _ _ ⟨rfl, rfl⟩ (I1.laid2 hp) (n1.trans (Nx.laid2 I1.le hp)) (.tup (SqT.of upd_same) (hr.reverse.le (Le.upd (I1.le.fre hp))))⟩)
end

/-! ### (a,) * k -/
theorem tuple_mul1 (l : Addr) (items : Array Value) (n : Nat) (dd : Option Addr) (sl : Array (Option Value)) (u : Tok) :
    Meets (Builtin.«tuple.__mul__» ⟨[.ref l, .int 1 u], []⟩) (fun _ R s => s.heap.get? l = some { cls := .type "tuple", dict := dd, data := .seq items n, slots := sl } ∧ R (.ok (.ret (Value.ref l))) s) :=
  .of_wp fun prog w A R s h => by
    obtain ⟨hp, g, d, tk, os⟩ := s
    obtain ⟨hl, h⟩ := h
    have f1 := AutoSeq1.idx_int
    have c0 : (decide ((1 : Int) < -(2 ^ 63)) || decide ((1 : Int) ≥ 2 ^ 63)) = false := by decide
    have c1 : (items.isEmpty || (1 : Int) == 1) = true := by rw [show ((1 : Int) == 1) = true from rfl, Bool.or_true]
    wp_walk using wpAny_loadPart' hl
    repeat (first
      | (refine wpAny_ite_false (decide_eq_false (by rw [c0]; exact Bool.false_ne_true)) ?_; wp_walk using wpAny_loadPart' hl)
      | (refine wpAny_ite_true (decide_eq_true c1) ?_; wp_walk using wpAny_loadPart' hl))
    exact ⟨_, rfl, h⟩
theorem tuple_mul0 (l : Addr) (items : Array Value) (n : Nat) (dd : Option Addr) (sl : Array (Option Value)) (u : Tok) (hi : items.isEmpty = false) :
    Meets (Builtin.«tuple.__mul__» ⟨[.ref l, .int 0 u], []⟩) (fun _ R s => s.heap.get? l = some { cls := .type "tuple", dict := dd, data := .seq items n, slots := sl } ∧
      R (.ok (.ret (Value.ref s.heap.objs.size))) { s with heap := s.heap.push { cls := Value.type "tuple", data := Data.seq #[] }, toks := s.toks }) :=
  .of_wp fun prog w A R s h => by
    obtain ⟨hp, g, d, tk, os⟩ := s
    obtain ⟨hl, h⟩ := h
    have f1 := AutoSeq1.idx_int
    have c0 : (decide ((0 : Int) < -(2 ^ 63)) || decide ((0 : Int) ≥ 2 ^ 63)) = false := by decide
    have c1 : (items.isEmpty || (0 : Int) == 1) = false := by rw [hi]; rfl
    have c2 : (decide ((0 : Int) ≤ 0) || items.isEmpty) = true := by rw [hi]; rfl
    wp_walk using wpAny_loadPart' hl
    repeat (first
      | (refine wpAny_ite_false (decide_eq_false (by rw [c0]; exact Bool.false_ne_true)) ?_; wp_walk using wpAny_loadPart' hl)
      | (refine wpAny_ite_false (decide_eq_false (by rw [c1]; exact Bool.false_ne_true)) ?_; wp_walk using wpAny_loadPart' hl)
      | (refine wpAny_ite_true (decide_eq_true c2) ?_; wp_walk using wpAny_loadPart' hl))
    exact ⟨_, rfl, h⟩
section
variable {X : Cx} {T : Option Addr}
def rRepG (K : PySem.W.Frag) : R2 := fun x y H Q => ∃ l k xs, x = .ref l ∧ y = .int k ∧ SqT K H l xs ∧ xs ≠ [] ∧ 0 ≤ k ∧ k ≤ 1000 ∧ xs.length ≤ 1000 ∧ (k = 1 → Q (.ref l) H) ∧ (k ≠ 1 → ∀ p, H p = none → Q (.ref p) (upd H p (.tup (List.replicate k.toNat xs).flatten)))
theorem op_repG : OpR X (binaryOp .Mult) (rRepG X.K) := by
  intro pins s σ H x y v u Q I rx ry h
  obtain ⟨l, k, xs, rfl, rfl, hT, hne, h0, h2, hz, q1, q⟩ := h
  by_cases hk2 : 2 ≤ k
  · exact op_repT pins s σ H _ _ v u Q I rx ry ⟨l, k, xs, rfl, rfl, hT, hne, hk2, h2, hz, q (by omega)⟩
  cases rx
  obtain ⟨t, rfl⟩ := ry
  obtain ⟨its, r, ⟨⟨cls, dd, data, sl⟩, ho, hc, n, hd⟩, hs⟩ := I.tuple hT
  simp only at hc hd
  subst hc hd
  have hle : its.length = xs.length := r.length.symm
  have hn : its ≠ [] := fun e => hne (by
    rw [e] at hle
    exact List.eq_nil_of_length_eq_zero hle.symm)
  have hi : its.toArray.isEmpty = false := by
    cases its with
    | nil => exact absurd rfl hn
    | cons a b => rfl
  by_cases hk1 : k = 1
  · subst hk1
    refine wpAny_binaryOp_repeat_ref (T := "tuple") (U := "int") (by decide) ⟨_, ho, rfl⟩ (fun s' => typeIs_int s' 1 t) noFill_tuple_mul F.fills_int_mul F.slot_int_rmul repeat_tuple F.slot_int_index.lookup
      (call_meets F.slot_int_rmul (typeIs_int s 1 t) F.entry_int_rmul (F.args_int_rmul_2 _ _) (int_rmul_tuple 1 t l its.toArray n dd sl)
        ⟨ho, rfl, ⟨_, ho, rfl⟩, call_meets F.slot_tuple_mul ⟨_, ho, rfl⟩ F.entry_tuple_mul (F.args_tuple_mul_2 _ _) (tuple_mul1 l its.toArray n dd sl t) ⟨ho, ?_⟩⟩)
    exact ⟨.ref l, H, I, rfl, q1 rfl⟩
  · have hk0 : k = 0 := by omega
    subst hk0
    refine wpAny_binaryOp_repeat_ref (T := "tuple") (U := "int") (by decide) ⟨_, ho, rfl⟩ (fun s' => typeIs_int s' 0 t) noFill_tuple_mul F.fills_int_mul F.slot_int_rmul repeat_tuple F.slot_int_index.lookup
      (call_meets F.slot_int_rmul (typeIs_int s 0 t) F.entry_int_rmul (F.args_int_rmul_2 _ _) (int_rmul_tuple 0 t l its.toArray n dd sl)
        ⟨ho, rfl, ⟨_, ho, rfl⟩, call_meets F.slot_tuple_mul ⟨_, ho, rfl⟩ F.entry_tuple_mul (F.args_tuple_mul_2 _ _) (tuple_mul0 l its.toArray n dd sl t hi) ⟨ho, ?_⟩⟩)
    refine ⟨.ref s.heap.objs.size, _, I.laid (t' := s.toks) (o := .tup []) (fun b ob q => Heap.get?_push_of_some _ q) (Nat.le_refl _) ?_, rfl, q (by decide) _ (I.hok.fresh (Nat.le_refl _))⟩
    exact ⟨Nat.zero_le _, [], .nil, IsTup.new _ _⟩
theorem opd_repT {xs : List PyData} {k : Int} (hx : xs ≠ []) (h0 : 0 ≤ k) (h1 : k ≤ 1000) (h2 : xs.length ≤ 1000) : OpD X T (binaryOp .Mult) (.tuple xs) (.int k) (.tuple (List.replicate k.toNat xs).flatten) := fun S R σ H a b Q I ra rb q => by
  cases ra with
  | @tup a us _ ha ra =>
    cases rb
    have l1 := ra.length
    refine ⟨_, op_repG, a, k, us, rfl, rfl, le_t I.le ha, fun z => ?_, h0, h1, by omega, fun e1 => ?_, fun _ p hp => ?_⟩
    · subst z
      cases xs with
      | nil => exact hx rfl
      | cons _ _ => cases ra
    · subst e1
      have e2 : (List.replicate (1 : Int).toNat xs).flatten = xs := by simp
      rw [e2] at q
      exact q R _ H I Nx.refl (.tup ha ra)
    · exact q _ _ _ (I.laid2 hp) (Nx.laid2 I.le hp) (.tup (SqT.of upd_same) ((ra.rep k.toNat).le (Le.upd (I.le.fre hp))))
/-- what stands in x = [..] where the store is within the comprehension -/
theorem rep_one (k : Nat) (d : PyData) : (List.replicate k [d]).flatten = List.replicate k d := by
  induction k with
  | zero => rfl
  | succ n ih => rw [List.replicate_succ, List.flatten_cons, ih, List.replicate_succ]; rfl
end
end PL
set_option maxHeartbeats 4000000
namespace PL
open PySem PySem.Spec PyProof.Rows L2 RZ
/-! ### defs of the text, and what they are worth -/
structure DefAt (K : PySem.W.Frag) (mg : Str → Option Value) (n : Str) (st : Stmt) (ps : List Str) : Prop where
  ex : ∃ (f : Addr) (fd : FuncData), Fun K n n st f fd ∧ mg n = some (.ref f) ∧ Binds K fd ps []
abbrev SpD := List PyData → (PyData → Prop) → Prop
abbrev SpT := List Sl → Nat → (PyData → Nat → Prop) → Prop
def Mono (sp : SpD) : Prop := ∀ ds (κ κ' : PyData → Prop), (∀ d, κ d → κ' d) → sp ds κ → sp ds κ'
def MonoT (sp : SpT) : Prop := ∀ ds b (κ κ' : PyData → Nat → Prop), (∀ d b, κ d b → κ' d b) → sp ds b κ → sp ds b κ'
section
variable (P : Program) (w : World) (K : PySem.W.Frag) (mg : Str → Option Value) (base : Heap)
structure Callee (n : Str) (k : Nat) (sp : SpD) : Prop where
  ex : ∃ (f : Addr) (fd : FuncData) (ps : List Str), FnOk P w K mg base CX0 k f fd ps (lift K sp) ∧ mg n = some (.ref f) ∧ PySem.W.keepIn K (.ref f) = true ∧ Binds K fd ps [] ∧ Mono sp
structure CalleeT (n : Str) (k : Nat) (sp : SpT) : Prop where
  ex : ∃ (f : Addr) (fd : FuncData) (ps : List Str), FnOk P w K mg base CX0 k f fd ps (liftT K sp) ∧ mg n = some (.ref f) ∧ PySem.W.keepIn K (.ref f) = true ∧ Binds K fd ps [] ∧ MonoT sp
end
section
variable {P : Program} {w : World} {K : PySem.W.Frag} {mg : Str → Option Value} {base : Heap} {n : Str} {st : Stmt} {N ps : List Str} {k : Nat}
/-- where a def's body runs -/
abbrev CxD (P : Program) (w : World) (K : PySem.W.Frag) (mg : Str → Option Value) (base : Heap) (N : List Str) (n : Str) (st : Stmt) (f : Addr) (cdv : Value) (A : Around) (outer : List Env) (s : Shared) (H : Hp) (E : XK) : Cx := (cxOf CX0 P w K mg base N n (defScope st) f cdv A outer s H E).nox
theorem callee_of {sp : SpD} (D : DefAt K mg n st ps) (Sc : FnScope N ps (defScope st)) (mono : Mono sp) (len : ∀ ds κ, sp ds κ → ds.length = ps.length)
    (body : ∀ (f : Addr) (cdv : Value) (A : Around) (outer : List Env) (s : Shared) (H : Hp) (E : XK), Room k (A.deeper (envOfC n (defScope st) s.heap.objs.size f cdv)) → ∀ ds κ, sp ds κ →
      Run (CxD P w K mg base N n st f cdv A outer s H E) none (defBody st) ⟨0, startS N.length (ds.map Sl.dat)⟩ ⟨fun _ => κ .none, fun d _ => κ d, fun _ => False, fun _ => False⟩) : Callee P w K mg base n (k + 1) sp := by
  obtain ⟨f, fd, F, gm, b⟩ := D.ex
  exact ⟨f, fd, ps, fn_ok F Sc len (body f), gm, F.kp, b, mono⟩
theorem calleeT_of {sp : SpT} (D : DefAt K mg n st ps) (Sc : FnScope N ps (defScope st)) (mono : MonoT sp) (len : ∀ ds b κ, sp ds b κ → ds.length = ps.length)
    (body : ∀ (f : Addr) (cdv : Value) (A : Around) (outer : List Env) (s : Shared) (H : Hp) (E : XK), Room k (A.deeper (envOfC n (defScope st) s.heap.objs.size f cdv)) → ∀ ds b κ t, sp ds b κ →
      Run (CxD P w K mg base N n st f cdv A outer s H E) (some t) (defBody st) ⟨b, startS N.length ds⟩ ⟨fun S => κ .none S.b, fun d b => κ d b, fun _ => False, fun _ => False⟩) : CalleeT P w K mg base n (k + 1) sp := by
  obtain ⟨f, fd, F, gm, b⟩ := D.ex
  exact ⟨f, fd, ps, fn_okT F Sc len (body f), gm, F.kp, b, mono⟩
end
section
variable {X : Cx} {T : Option Addr} {S : Sta} {e a b c tg : Expr} {es : List Expr} {pos p : Pos} {d : PyData} {κ : PyData → Nat → Prop} {n : Str} {k : Nat}
theorem ev_fn {sp : SpD} (C : Callee X.prog X.w X.K X.mg X.base n k sp) (hr : Room k X.A) (ha : EvA X T (e :: es) S fun ds b => sp ds fun d => κ d b) (hg : Gl X n := by rfl) (hdb : (n == ("__debug__" : Str)) = false := by decide)
    (he : starEach (e :: es) X.env = (false, eval e X.env) :: starEach es X.env := by rfl) (hpl : (backTo pos (starEach es X.env)).any (·.1) = false := by rfl) : Ev X T (.Call (.Name n p) (e :: es) [] pos) S κ := by
  obtain ⟨f, fd, ps, F, gm, kp, b, mono⟩ := C.ex
  exact ev_call F hr gm kp b ha hg hdb he hpl mono
theorem evp_fn {sp : SpD} {ds : List PyData} (C : Callee X.prog X.w X.K X.mg X.base n k sp) (hr : Room k X.A) (ha : EvAP X T (e :: es) S ds) (h : sp ds fun d' => d' = d) (hg : Gl X n := by rfl) (hdb : (n == ("__debug__" : Str)) = false := by decide)
    (he : starEach (e :: es) X.env = (false, eval e X.env) :: starEach es X.env := by rfl) (hpl : (backTo pos (starEach es X.env)).any (·.1) = false := by rfl) : EvP X T (.Call (.Name n p) (e :: es) [] pos) S d := by
  have C' := C
  obtain ⟨f, fd, ps, F, gm, kp, b, mono⟩ := C'.ex
  exact ev_fn C hr (EvA.k ha (mono _ _ _ (fun d' e1 => ⟨e1, rfl⟩) h)) hg hdb he hpl
theorem ev_fnT {t : Addr} {sp : SpT} (C : CalleeT X.prog X.w X.K X.mg X.base n k sp) (hr : Room k X.A) (ha : EvB X (some t) (e :: es) S fun ds b => sp ds b κ) (hg : Gl X n := by rfl) (hdb : (n == ("__debug__" : Str)) = false := by decide)
    (he : starEach (e :: es) X.env = (false, eval e X.env) :: starEach es X.env := by rfl) (hpl : (backTo pos (starEach es X.env)).any (·.1) = false := by rfl) : Ev X (some t) (.Call (.Name n p) (e :: es) [] pos) S κ := by
  obtain ⟨f, fd, ps, F, gm, kp, b, mono⟩ := C.ex
  exact ev_callT F hr gm kp b ha hg hdb he hpl mono
/-! builtins, by their arguments' data -/
theorem evp_bi {id : String} {ds : List PyData} (ha : EvAP X T (e :: es) S ds) (c : CallD X T (.builtin id) ds d) (hm : X.mg n = none) (hv : bootBuiltins n = some (.builtin id)) (hg : Gl X n := by rfl) (hn : n ≠ "__name__" := by decide) (hdb : (n == ("__debug__" : Str)) = false := by decide)
    (he : starEach (e :: es) X.env = (false, eval e X.env) :: starEach es X.env := by rfl) (hpl : (backTo pos (starEach es X.env)).any (·.1) = false := by rfl) : EvP X T (.Call (.Name n p) (e :: es) [] pos) S d :=
  ev_callB (EvA.k ha ⟨d, c, rfl, rfl⟩) hm hv hg hn hdb he hpl
theorem evp_ty {id : String} {ds : List PyData} (ha : EvAP X T (e :: es) S ds) (c : CallD X T (.type id) ds d) (hm : X.mg n = none) (hv : bootBuiltins n = some (.type id)) (hg : Gl X n := by rfl) (hn : n ≠ "__name__" := by decide) (hdb : (n == ("__debug__" : Str)) = false := by decide)
    (he : starEach (e :: es) X.env = (false, eval e X.env) :: starEach es X.env := by rfl) (hpl : (backTo pos (starEach es X.env)).any (·.1) = false := by rfl) : EvP X T (.Call (.Name n p) (e :: es) [] pos) S d :=
  ev_callTy (EvA.k ha ⟨d, c, rfl, rfl⟩) hm hv hg hn hdb he hpl
theorem evnp_bi {id : String} {ds zs : List PyData} (ha : EvAP X T (e :: es) S ds) (c : CallN X T (.builtin id) ds zs) (hm : X.mg n = none) (hv : bootBuiltins n = some (.builtin id)) (hg : Gl X n := by rfl) (hn : n ≠ "__name__" := by decide) (hdb : (n == ("__debug__" : Str)) = false := by decide)
    (he : starEach (e :: es) X.env = (false, eval e X.env) :: starEach es X.env := by rfl) (hpl : (backTo pos (starEach es X.env)).any (·.1) = false := by rfl) : EvNP X T (.Call (.Name n p) (e :: es) [] pos) S zs :=
  evn_callB (EvA.k ha ⟨zs, c, rfl, rfl⟩) hm hv hg hn hdb he hpl
theorem evnp_ty {id : String} {ds zs : List PyData} (ha : EvAP X T (e :: es) S ds) (c : CallN X T (.type id) ds zs) (hm : X.mg n = none) (hv : bootBuiltins n = some (.type id)) (hg : Gl X n := by rfl) (hn : n ≠ "__name__" := by decide) (hdb : (n == ("__debug__" : Str)) = false := by decide)
    (he : starEach (e :: es) X.env = (false, eval e X.env) :: starEach es X.env := by rfl) (hpl : (backTo pos (starEach es X.env)).any (·.1) = false := by rfl) : EvNP X T (.Call (.Name n p) (e :: es) [] pos) S zs :=
  evn_callTy (EvA.k ha ⟨zs, c, rfl, rfl⟩) hm hv hg hn hdb he hpl
/-- a new list, as data -/
theorem evp_new {ds : List PyData} (h : EvNP X T e S ds) : EvP X T e S (.list ds) := Ev.ofN h fun _ _ ⟨e1, e2⟩ => ⟨by rw [e1], e2⟩
theorem own_ok {ps : List (Nat × PyData)} (is : List Nat) {vs : List Nat} (h : ∀ j ∈ is, j ∈ vs) (e : ps.map (·.1) = is) : ∀ q ∈ ps, q.1 ∈ vs := fun q hq => h q.1 (by rw [← e]; exact List.mem_map_of_mem hq)
/-- [f(x) for x in xs]: pure, without tests; with one test -/
theorem evnp_map {elt iter : Expr} {scope : Scope} {own : List (Str × Nat)} {g : TG} {xs : List PyData} (ps : PyData → List (Nat × PyData)) (f : PyData → PyData) (hN : X.N.Nodup) (hi : EvIP X T tg iter S xs) (ok : BlkOk X.N X.env.scope scope own) (hg : ForBlk X scope fun Y => PG Y tg g)
    (hz : xs.length ≤ sizeLine) (hps : ∀ x ∈ xs, (∀ q ∈ ps x, q.1 ∈ own.map (·.2)) ∧ GS X.K g x (ps x)) (he : ∀ x ∈ xs, ForBlk X scope fun Y => EvP Y T elt ⟨S.b, setD (wipeS S.sl (own.map (·.2))) (ps x)⟩ (f x))
    (hc : X.calm = true := by rfl) (hs : ∀ x, foldedSetIterable iter X.env x = pure x := by intro _; rfl) : EvNP X T (.ListComp elt [⟨tg, iter, [], 0⟩] scope pos) S (xs.map f) := by
  refine evn_lc hN hi ok hg (fun ys b ⟨e1, e2⟩ => ?_) hc hs
  subst e1 e2
  refine ⟨fun i acc b => acc = (ys.take i).map f ∧ b = S.b, ⟨rfl, rfl⟩, hz, fun i x acc b1 hx ⟨ea, eb⟩ => ?_, fun acc b1 ⟨ea, eb⟩ => ⟨by rw [ea, List.take_length], eb⟩⟩
  have hm := List.mem_of_getElem? hx
  refine ⟨ps x, (hps x hm).1, (hps x hm).2, true, fun s H0 C cl fp => rfl, fun _ s H0 C cl fp => ?_, fun z => by cases z⟩
  subst ea eb
  refine Ev.k (he x hm s H0 C cl fp) ⟨?_, rfl⟩
  rw [List.take_add_one, hx, List.map_append]; rfl
theorem evnp_filter {elt iter t : Expr} {scope : Scope} {own : List (Str × Nat)} {g : TG} {xs : List PyData} (ps : PyData → List (Nat × PyData)) (q : PyData → Bool) (f : PyData → PyData) (hN : X.N.Nodup) (hi : EvIP X T tg iter S xs) (ok : BlkOk X.N X.env.scope scope own) (hg : ForBlk X scope fun Y => PG Y tg g)
    (hz : xs.length ≤ sizeLine) (hps : ∀ x ∈ xs, (∀ q ∈ ps x, q.1 ∈ own.map (·.2)) ∧ GS X.K g x (ps x)) (ht : ∀ x ∈ xs, ForBlk X scope fun Y => EvT Y T t ⟨S.b, setD (wipeS S.sl (own.map (·.2))) (ps x)⟩ (q x)) (he : ∀ x ∈ xs, q x = true → ForBlk X scope fun Y => EvP Y T elt ⟨S.b, setD (wipeS S.sl (own.map (·.2))) (ps x)⟩ (f x))
    (hc : X.calm = true := by rfl) (hs : ∀ x, foldedSetIterable iter X.env x = pure x := by intro _; rfl) : EvNP X T (.ListComp elt [⟨tg, iter, [t], 0⟩] scope pos) S ((xs.filter q).map f) := by
  refine evn_lc hN hi ok hg (fun ys b ⟨e1, e2⟩ => ?_) hc hs
  subst e1 e2
  refine ⟨fun i acc b => acc = ((ys.take i).filter q).map f ∧ b = S.b, ⟨rfl, rfl⟩, hz, fun i x acc b1 hx ⟨ea, eb⟩ => ?_, fun acc b1 ⟨ea, eb⟩ => ⟨by rw [ea, List.take_length], eb⟩⟩
  have hm := List.mem_of_getElem? hx
  subst ea eb
  refine ⟨ps x, (hps x hm).1, (hps x hm).2, q x, fun s H0 C cl fp => ht x hm s H0 C cl fp, fun hq s H0 C cl fp => ?_, fun hq => ⟨?_, rfl⟩⟩
  · refine Ev.k (he x hm hq s H0 C cl fp) ⟨?_, rfl⟩
    rw [List.take_add_one, hx, List.filter_append, List.map_append, Option.toList_some, List.filter_cons, if_pos hq]; rfl
  · rw [List.take_add_one, hx, List.filter_append, Option.toList_some, List.filter_cons, if_neg (by rw [hq]; decide), List.filter_nil, List.append_nil]
end
/-- names that stay the built-in ones -/
structure BI (mg : Str → Option Value) : Prop where
  len : mg "len" = none
  range : mg "range" = none
  sum : mg "sum" = none
  tuple : mg "tuple" = none
  list : mg "list" = none
  min : mg "min" = none
  max : mg "max" = none
  isinstance : mg "isinstance" = none
  int : mg "int" = none
  str : mg "str" = none
  bool : mg "bool" = none
  all : mg "all" = none
  any : mg "any" = none
  zip : mg "zip" = none
  enumerate : mg "enumerate" = none
  sorted : mg "sorted" = none
  dict : mg "dict" = none
  ValueError : mg "ValueError" = none
end PL
set_option maxHeartbeats 4000000
namespace PL
open PySem PySem.Spec PyProof.Rows L2 RZ
/-! ### naturals -/
abbrev nD (n : Nat) : PyData := .int (n : Int)
abbrev bD (b : Bool) : PyData := .bool b
abbrev sD (s : Str) : PyData := .str s
def zs_ (ns : List Nat) : List Int := ns.map fun (n : Nat) => (n : Int)
theorem map_nD (ns : List Nat) : ns.map nD = (zs_ ns).map PyData.int := by unfold zs_; rw [List.map_map]; rfl
theorem zsum_ (ns : List Nat) : (zs_ ns).sum = ((ns.sum : Nat) : Int) := by
  induction ns with
  | nil => rfl
  | cons a r ih =>
    show (((a : Nat) : Int) :: zs_ r).sum = _
    rw [List.sum_cons, List.sum_cons, ih]; omega
theorem noLs_nD (ns : List Nat) : noLs (ns.map nD) = true := by rw [map_nD]; exact noLs_ints _
theorem noL_nDs (ns : List Nat) : noL (.tuple (ns.map nD)) = true := noLs_nD ns
def MulOk (i j : Nat) : Prop := i < 2 ^ 64 ∨ j < 2 ^ 64 ∨ CMulW (i : Int) (j : Int)
def DivOk (j : Nat) : Prop := 0 < j ∧ (j < 2 ^ 250 ∨ (j : Int).natAbs.log2 < 9000)
section
variable {X : Cx} {T : Option Addr} {S : Sta} {e a b c tg : Expr} {es : List Expr} {pos p : Pos} {d : PyData} {κ : PyData → Nat → Prop} {i j : Nat}
theorem evp_nat (n : Nat) {z : Int} {k : Nat} (h : z = (n : Int) := by rfl) : EvP X T (.Constant (.int z) k pos) S (nD n) := by subst h; exact evp_int
theorem opn_add : OpD X T (binaryOp .Add) (nD i) (nD j) (nD (i + j)) := by
  show OpD X T _ (.int _) (.int _) (.int _)
  rw [Int.natCast_add]; exact opd_add
theorem opn_sub (h : j ≤ i) : OpD X T (binaryOp .Sub) (nD i) (nD j) (nD (i - j)) := by
  show OpD X T _ (.int _) (.int _) (.int _)
  rw [Int.ofNat_sub h]; exact opd_sub
theorem opn_mul (h : MulOk i j) : OpD X T (binaryOp .Mult) (nD i) (nD j) (nD (i * j)) := by
  show OpD X T _ (.int _) (.int _) (.int _)
  rw [Int.natCast_mul]
  rcases h with h | h | h
  · exact opd_mulL (by omega)
  · exact opd_mulR (by omega)
  · exact opd_mulW h
theorem opn_mod (h : 0 < j) : OpD X T (binaryOp .Mod) (nD i) (nD j) (nD (i % j)) := opd_mod (i := (i : Int)) (j := (j : Int)) (by omega)
theorem log2_small {j : Nat} (h0 : 0 < j) (h : j < 2 ^ 250) : (j : Int).natAbs.log2 < 9000 := by
  have : (j : Int).natAbs = j := by omega
  rw [this]
  have := (Nat.log2_lt (Nat.pos_iff_ne_zero.mp h0)).mpr h
  omega
theorem opn_fdv (h : DivOk j) : OpD X T (binaryOp .FloorDiv) (nD i) (nD j) (nD (i / j)) := by
  obtain ⟨h0, h1⟩ := h
  refine opd_divW (i := (i : Int)) (j := (j : Int)) ⟨by omega, ?_⟩
  rcases h1 with h1 | h1
  · exact log2_small h0 h1
  · exact h1
theorem opn_lt : OpD X T (compareOp .Lt) (nD i) (nD j) (.bool (decide (i < j))) := by
  rw [dec_congr (p := i < j) (q := (i : Int) < (j : Int)) (by omega)]; exact opd_lt
theorem opn_le : OpD X T (compareOp .LtE) (nD i) (nD j) (.bool (decide (i ≤ j))) := by
  rw [dec_congr (p := i ≤ j) (q := (i : Int) ≤ (j : Int)) (by omega)]; exact opd_le
theorem opn_gt : OpD X T (compareOp .Gt) (nD i) (nD j) (.bool (decide (j < i))) := by
  rw [dec_congr (p := j < i) (q := (j : Int) < (i : Int)) (by omega)]; exact opd_gt
theorem opn_ge : OpD X T (compareOp .GtE) (nD i) (nD j) (.bool (decide (j ≤ i))) := by
  rw [dec_congr (p := j ≤ i) (q := (j : Int) ≤ (i : Int)) (by omega)]; exact opd_ge
theorem opn_eq : OpD X T (compareOp .Eq) (nD i) (nD j) (.bool (decide (i = j))) := by
  rw [dec_congr (p := i = j) (q := (i : Int) = (j : Int)) (by omega)]; exact opd_eqI
theorem opn_ne : OpD X T (compareOp .NotEq) (nD i) (nD j) (.bool (!decide (i = j))) := by
  rw [dec_congr (p := i = j) (q := (i : Int) = (j : Int)) (by omega)]; exact opd_neI
/-- tuples of naturals -/
theorem opn_snoc {ns : List Nat} (h : ns.length + 1 ≤ sizeLine) : OpD X T (binaryOp .Add) (.tuple (ns.map nD)) (.tuple [nD j]) (.tuple ((ns ++ [j]).map nD)) := by
  rw [List.map_append]
  exact opd_cat (by rw [List.length_map]; exact h)
theorem opn_cat {ns ms : List Nat} (h : ns.length + ms.length ≤ sizeLine) : OpD X T (binaryOp .Add) (.tuple (ns.map nD)) (.tuple (ms.map nD)) (.tuple ((ns ++ ms).map nD)) := by
  rw [List.map_append]
  exact opd_cat (by rw [List.length_map, List.length_map]; exact h)
theorem opn_catL {ns ms : List Nat} (h : ns.length + ms.length ≤ sizeLine) : OpD X T (binaryOp .Add) (.list (ns.map nD)) (.list (ms.map nD)) (.list ((ns ++ ms).map nD)) := by
  rw [List.map_append]
  exact opd_catL (by rw [List.length_map, List.length_map]; exact h)
theorem opn_repT (h1 : i ≤ 1000) : OpD X T (binaryOp .Mult) (.tuple [nD j]) (nD i) (.tuple ((List.replicate i j).map nD)) := by
  have := opd_repT (X := X) (T := T) (xs := [nD j]) (k := (i : Int)) (by simp) (by omega) (by omega) (by simp)
  rw [rep_one, show (i : Int).toNat = i by omega] at this
  rw [List.map_replicate]; exact this
theorem opn_repL (h1 : i ≤ 16777216) : OpD X T (binaryOp .Mult) (.list [nD j]) (nD i) (.list ((List.replicate i j).map nD)) := by
  have := opd_repL (X := X) (T := T) (xs := [nD j]) (k := (i : Int)) (by omega) (by omega) (by show 1 * (i : Int).toNat ≤ sizeLine; rw [sizeLine_eq]; omega)
  rw [rep_one, show (i : Int).toNat = i by omega] at this
  rw [List.map_replicate]; exact this
theorem cdn_len {ns : List Nat} : CallD X T (.builtin "len") [.tuple (ns.map nD)] (nD ns.length) := by
  have := cd_lenT (X := X) (T := T) (ds := ns.map nD); rw [List.length_map] at this; exact this
theorem cdn_lenL {ns : List Nat} : CallD X T (.builtin "len") [.list (ns.map nD)] (nD ns.length) := by
  have := cd_lenL (X := X) (T := T) (ds := ns.map nD); rw [List.length_map] at this; exact this
theorem cdn_sum {ns : List Nat} (hc : X.calm = true := by rfl) : CallD X T (.builtin "sum") [.tuple (ns.map nD)] (nD ns.sum) := by
  have := cd_sumT (X := X) (T := T) (ns := zs_ ns) hc; rw [zsum_, ← map_nD] at this; exact this
theorem cdn_sumL {ns : List Nat} (hc : X.calm = true := by rfl) : CallD X T (.builtin "sum") [.list (ns.map nD)] (nD ns.sum) := by
  have := cd_sumL (X := X) (T := T) (ns := zs_ ns) hc; rw [zsum_, ← map_nD] at this; exact this
theorem cdn_int : CallD X T (.type "int") [nD i] (nD i) := cd_intI
theorem cdn_intB {b : Bool} : CallD X T (.type "int") [.bool b] (nD (if b then 1 else 0)) := by
  have := cd_intB (X := X) (T := T) (b := b)
  cases b <;> exact this
theorem cdn_max2 (hc : X.calm = true := by rfl) : CallD X T (.builtin "max") [nD i, nD j] (nD (max i j)) := by
  have := cd_max2 (X := X) (T := T) (i := (i : Int)) (j := (j : Int)) hc
  rw [show nD (max i j) = PyData.int (max (i : Int) (j : Int)) by show PyData.int _ = _; congr 1; omega]; exact this
theorem cdn_min2 (hc : X.calm = true := by rfl) : CallD X T (.builtin "min") [nD i, nD j] (nD (min i j)) := by
  have := cd_min2 (X := X) (T := T) (i := (i : Int)) (j := (j : Int)) hc
  rw [show nD (min i j) = PyData.int (min (i : Int) (j : Int)) by show PyData.int _ = _; congr 1; omega]; exact this
theorem evn_ixT {ns : List Nat} (ha : EvP X T a S (.tuple (ns.map nD))) (hb : EvP X T b S (nD i)) (h : i < ns.length) (hs : PlainIx b := by exact fun _ _ => rfl) : EvP X T (.Subscript a b pos) S (nD (ns.getD i 0)) :=
  evp_ixT ha hb (atI_nat (by rw [List.getElem?_map, List.getElem?_eq_getElem h, List.getD_eq_getElem?_getD, List.getElem?_eq_getElem h]; rfl)) hs
theorem evn_ixL {ns : List Nat} (ha : EvP X T a S (.list (ns.map nD))) (hb : EvP X T b S (nD i)) (h : i < ns.length) (hs : PlainIx b := by exact fun _ _ => rfl) : EvP X T (.Subscript a b pos) S (nD (ns.getD i 0)) :=
  evp_ixL ha hb (atI_nat (by rw [List.getElem?_map, List.getElem?_eq_getElem h, List.getD_eq_getElem?_getD, List.getElem?_eq_getElem h]; rfl)) hs
theorem evn_revT {ns : List Nat} {k : Nat} {p1 p2 p3 : Pos} (h : EvP X T e S (.tuple (ns.map nD))) : EvP X T (.Subscript e (.Slice none none (some (.UnaryOp .USub (.Constant (.int 1) k p1) p2)) p3) pos) S (.tuple (ns.reverse.map nD)) := by
  rw [List.map_reverse]; exact evp_revT h
def rgN (n : Nat) : List PyData := (List.range n).map nD
theorem rgN_length (n : Nat) : (rgN n).length = n := by unfold rgN; rw [List.length_map, List.length_range]
theorem rgN_get {n i : Nat} {x : PyData} (h : (rgN n)[i]? = some x) : i < n ∧ x = nD i := by
  unfold rgN at h
  rw [List.getElem?_map] at h
  by_cases hi : i < n
  · rw [List.getElem?_range hi] at h
    exact ⟨hi, (Option.some.inj h).symm⟩
  · rw [List.getElem?_eq_none (by rw [List.length_range]; omega)] at h; cases h
theorem rgD_rgN (n : Nat) : rgD 0 (n : Int).toNat = rgN n := by
  unfold rgD rgN
  rw [show (n : Int).toNat = n by omega]
  apply List.map_congr_left
  intro i _
  show PyData.int (0 + (i : Int)) = PyData.int i
  congr 1; omega
theorem ein_rng {n : Nat} (h : EvP X T a S (nD n)) (hm : X.mg "range" = none) (hn : n < 2 ^ 62 := by omega) (hg : Gl X "range" := by rfl) (hs : starEach [a] X.env = [(false, eval a X.env)] := by rfl) :
    EvIP X T tg (.Call (.Name "range" p) [a] [] pos) S (rgN n) := by
  rw [← rgD_rgN]
  exact eip_rng1 h (by omega) hm (by omega) hg hs
/-- range(m, n), naturals -/
def rg2N (m n : Nat) : List PyData := (List.range' m (n - m)).map nD
theorem ein_rng2 {m n : Nat} (h : EvP X T a S (nD m)) (h' : EvP X T b S (nD n)) (hm : X.mg "range" = none) (hmn : m < 2 ^ 62 ∧ n < 2 ^ 62 := by omega) (hg : Gl X "range" := by rfl)
    (hs : starEach [a, b] X.env = [(false, eval a X.env), (false, eval b X.env)] := by rfl) (hs2 : starEach [b] X.env = [(false, eval b X.env)] := by rfl) : EvIP X T tg (.Call (.Name "range" p) [a, b] [] pos) S (rg2N m n) := by
  have e : rgD (m : Int) ((n : Int) - (m : Int)).toNat = rg2N m n := by
    unfold rgD rg2N
    rw [show ((n : Int) - (m : Int)).toNat = n - m by omega, List.range'_eq_map_range, List.map_map]
    apply List.map_congr_left
    intro i _
    show PyData.int ((m : Int) + (i : Int)) = PyData.int ((m + i : Nat) : Int)
    congr 1
  rw [← e]
  exact eip_rng2 h h' (by omega) hm hg hs hs2
/-! comprehensions over encoded data -/
section
variable {elt iter t : Expr} {scope : Scope} {own : List (Str × Nat)} {g : TG} {α β : Type}
theorem evnp_mapA (as : List α) (enc : α → PyData) (ps : PyData → List (Nat × PyData)) (f : α → PyData) (hN : X.N.Nodup) (hi : EvIP X T tg iter S (as.map enc)) (ok : BlkOk X.N X.env.scope scope own) (hg : ForBlk X scope fun Y => PG Y tg g)
    (hz : as.length ≤ sizeLine) (hps : ∀ x ∈ as, (∀ q ∈ ps (enc x), q.1 ∈ own.map (·.2)) ∧ GS X.K g (enc x) (ps (enc x))) (he : ∀ x ∈ as, ForBlk X scope fun Y => EvP Y T elt ⟨S.b, setD (wipeS S.sl (own.map (·.2))) (ps (enc x))⟩ (f x))
    (hc : X.calm = true := by rfl) (hs : ∀ x, foldedSetIterable iter X.env x = pure x := by intro _; rfl) : EvNP X T (.ListComp elt [⟨tg, iter, [], 0⟩] scope pos) S (as.map f) := by
  refine evn_lc hN hi ok hg (fun ys b ⟨e1, e2⟩ => ?_) hc hs
  subst e1 e2
  refine ⟨fun i acc b => acc = (as.take i).map f ∧ b = S.b, ⟨rfl, rfl⟩, by rw [List.length_map]; exact hz, fun i x acc b1 hx ⟨ea, eb⟩ => ?_, fun acc b1 ⟨ea, eb⟩ => ⟨by rw [ea, List.length_map, List.take_length], eb⟩⟩
  rw [List.getElem?_map] at hx
  cases w : as[i]? with
  | none => rw [w] at hx; cases hx
  | some y =>
    rw [w] at hx
    have hx' : enc y = x := Option.some.inj hx
    subst hx'
    have hm := List.mem_of_getElem? w
    refine ⟨ps (enc y), (hps y hm).1, (hps y hm).2, true, fun s H0 C cl fp => rfl, fun _ s H0 C cl fp => ?_, fun z => by cases z⟩
    subst ea eb
    refine Ev.k (he y hm s H0 C cl fp) ⟨?_, rfl⟩
    rw [List.take_add_one, w, List.map_append]; rfl
theorem evnp_filA (as : List α) (enc : α → PyData) (ps : PyData → List (Nat × PyData)) (q : α → Bool) (f : α → PyData) (hN : X.N.Nodup) (hi : EvIP X T tg iter S (as.map enc)) (ok : BlkOk X.N X.env.scope scope own) (hg : ForBlk X scope fun Y => PG Y tg g)
    (hz : as.length ≤ sizeLine) (hps : ∀ x ∈ as, (∀ q ∈ ps (enc x), q.1 ∈ own.map (·.2)) ∧ GS X.K g (enc x) (ps (enc x))) (ht : ∀ x ∈ as, ForBlk X scope fun Y => EvT Y T t ⟨S.b, setD (wipeS S.sl (own.map (·.2))) (ps (enc x))⟩ (q x)) (he : ∀ x ∈ as, q x = true → ForBlk X scope fun Y => EvP Y T elt ⟨S.b, setD (wipeS S.sl (own.map (·.2))) (ps (enc x))⟩ (f x))
    (hc : X.calm = true := by rfl) (hs : ∀ x, foldedSetIterable iter X.env x = pure x := by intro _; rfl) : EvNP X T (.ListComp elt [⟨tg, iter, [t], 0⟩] scope pos) S ((as.filter q).map f) := by
  refine evn_lc hN hi ok hg (fun ys b ⟨e1, e2⟩ => ?_) hc hs
  subst e1 e2
  refine ⟨fun i acc b => acc = ((as.take i).filter q).map f ∧ b = S.b, ⟨rfl, rfl⟩, by rw [List.length_map]; exact hz, fun i x acc b1 hx ⟨ea, eb⟩ => ?_, fun acc b1 ⟨ea, eb⟩ => ⟨by rw [ea, List.length_map, List.take_length], eb⟩⟩
  rw [List.getElem?_map] at hx
  cases w : as[i]? with
  | none => rw [w] at hx; cases hx
  | some y =>
    rw [w] at hx
    have hx' : enc y = x := Option.some.inj hx
    subst hx'
    have hm := List.mem_of_getElem? w
    subst ea eb
    refine ⟨ps (enc y), (hps y hm).1, (hps y hm).2, q y, fun s H0 C cl fp => ht y hm s H0 C cl fp, fun hq s H0 C cl fp => ?_, fun hq => ⟨?_, rfl⟩⟩
    · refine Ev.k (he y hm hq s H0 C cl fp) ⟨?_, rfl⟩
      rw [List.take_add_one, w, List.filter_append, List.map_append, Option.toList_some, List.filter_cons, if_pos hq]; rfl
    · rw [List.take_add_one, w, List.filter_append, Option.toList_some, List.filter_cons, if_neg (by rw [hq]; decide), List.filter_nil, List.append_nil]
/-- .. the elements naturals, truths, texts -/
theorem evnp_mapN (as : List α) (enc : α → PyData) (ps : PyData → List (Nat × PyData)) {f : α → Nat} (hN : X.N.Nodup) (hi : EvIP X T tg iter S (as.map enc)) (ok : BlkOk X.N X.env.scope scope own) (hg : ForBlk X scope fun Y => PG Y tg g)
    (hz : as.length ≤ sizeLine) (hps : ∀ x ∈ as, (∀ q ∈ ps (enc x), q.1 ∈ own.map (·.2)) ∧ GS X.K g (enc x) (ps (enc x))) (he : ∀ x ∈ as, ForBlk X scope fun Y => EvP Y T elt ⟨S.b, setD (wipeS S.sl (own.map (·.2))) (ps (enc x))⟩ (nD (f x)))
    (hc : X.calm = true := by rfl) (hs : ∀ x, foldedSetIterable iter X.env x = pure x := by intro _; rfl) : EvNP X T (.ListComp elt [⟨tg, iter, [], 0⟩] scope pos) S ((as.map f).map nD) := by
  rw [List.map_map]; exact evnp_mapA as enc ps _ hN hi ok hg hz hps he hc hs
theorem evnp_mapB (as : List α) (enc : α → PyData) (ps : PyData → List (Nat × PyData)) {f : α → Bool} (hN : X.N.Nodup) (hi : EvIP X T tg iter S (as.map enc)) (ok : BlkOk X.N X.env.scope scope own) (hg : ForBlk X scope fun Y => PG Y tg g)
    (hz : as.length ≤ sizeLine) (hps : ∀ x ∈ as, (∀ q ∈ ps (enc x), q.1 ∈ own.map (·.2)) ∧ GS X.K g (enc x) (ps (enc x))) (he : ∀ x ∈ as, ForBlk X scope fun Y => EvP Y T elt ⟨S.b, setD (wipeS S.sl (own.map (·.2))) (ps (enc x))⟩ (.bool (f x)))
    (hc : X.calm = true := by rfl) (hs : ∀ x, foldedSetIterable iter X.env x = pure x := by intro _; rfl) : EvNP X T (.ListComp elt [⟨tg, iter, [], 0⟩] scope pos) S ((as.map f).map .bool) := by
  rw [List.map_map]; exact evnp_mapA as enc ps _ hN hi ok hg hz hps he hc hs
theorem evnp_mapS (as : List α) (enc : α → PyData) (ps : PyData → List (Nat × PyData)) {f : α → Str} (hN : X.N.Nodup) (hi : EvIP X T tg iter S (as.map enc)) (ok : BlkOk X.N X.env.scope scope own) (hg : ForBlk X scope fun Y => PG Y tg g)
    (hz : as.length ≤ sizeLine) (hps : ∀ x ∈ as, (∀ q ∈ ps (enc x), q.1 ∈ own.map (·.2)) ∧ GS X.K g (enc x) (ps (enc x))) (he : ∀ x ∈ as, ForBlk X scope fun Y => EvP Y T elt ⟨S.b, setD (wipeS S.sl (own.map (·.2))) (ps (enc x))⟩ (.str (f x)))
    (hc : X.calm = true := by rfl) (hs : ∀ x, foldedSetIterable iter X.env x = pure x := by intro _; rfl) : EvNP X T (.ListComp elt [⟨tg, iter, [], 0⟩] scope pos) S ((as.map f).map .str) := by
  rw [List.map_map]; exact evnp_mapA as enc ps _ hN hi ok hg hz hps he hc hs
end
end
/-! statements, over pure parts -/
section
variable {X : Cx} {T : Option Addr} {S : Sta} {k : KD} {e a b c tg : Expr} {es : List Expr} {rest body : List Stmt} {pos pos' : Pos} {d : PyData}
theorem run_newP (i : Nat) {x : Str} {ds : List PyData} (h : EvNP X T e S.drp ds) (q : Run X T rest ⟨S.b, S.sl.set i (some (.mu ds))⟩ k) (hN : X.N.Nodup) (hi : X.N[i]? = some x := by rfl) (hx : Loc X.env.scope x := by first | exact .inl rfl | exact .inr rfl) (hf : X.fn x = true ∨ X.env.scope.names.lookup x = some .local := by first | exact .inl rfl | exact .inr rfl)
    (hs : swapsWith e (some (.Name x pos')) pos.line X.env = pure false := by rfl) : Run X T (.Assign [.Name x pos'] e pos :: rest) S k := run_new i h (fun _ _ ⟨e1, e2⟩ => by subst e1 e2; exact q) hN hi hx hf hs
theorem run_forP {iter : Expr} {g : TG} {xs : List PyData} (hi : EvIP X T tg iter S.drp xs) (hg : PG X tg g) (Pv : Nat → Sta → Prop) (h0 : Pv 0 S)
    (h : ∀ i x S', xs[i]? = some x → Pv i S' → ∃ ps, GS X.K g x ps ∧ Run X T body ⟨S'.b, setD S'.sl ps⟩ { nx := Pv (i + 1), rt := k.rt, ct := Pv (i + 1), bk := fun S2 => Run X T rest S2 k }) (hd : ∀ S', Pv xs.length S' → Run X T rest S' k)
    (hp : PassesOwn (model X.prog X.w) X.A X.env X.xe := by exact PassesOwn.never) (hc : X.calm = true := by rfl) (hs : ∀ x, foldedSetIterable iter X.env x = pure x := by intro _; rfl) : Run X T (.For tg iter body [] pos :: rest) S k :=
  run_for hi hg (fun _ _ ⟨e1, e2⟩ => by subst e1 e2; exact ⟨Pv, h0, h, hd⟩) hp hc hs
theorem run_par2P (i j : Nat) {d1 d2 : PyData} {x y : Str} {px py pt pt2 : Pos} {kt k2 : Nat} (ha : EvP X T a S.drp d1) (hb : EvP X T b S.drp d2) (q : Run X T rest ⟨S.b, (S.sl.set i (some (.dat d1))).set j (some (.dat d2))⟩ k) (hN : X.N.Nodup) (hij : i ≠ j := by decide) (hi : X.N[i]? = some x := by rfl) (hj : X.N[j]? = some y := by rfl)
    (hx : X.env.scope.names.lookup x = some .local := by rfl) (hy : X.env.scope.names.lookup y = some .local := by rfl) (hw : swappedStores [.Tuple [.Name x px, .Name y py] kt pt] (.Tuple [a, b] k2 pt2) X.env = pure (some [x, y]) := by rfl)
    (hs : swapsWithSole [.Tuple [.Name x px, .Name y py] kt pt] (.Tuple [a, b] k2 pt2) pos.line X.env = pure false := by rfl) (hc : X.calm = true := by rfl) (hs1 : starEach [a, b] X.env = (false, eval a X.env) :: starEach [b] X.env := by rfl) (hs2 : starEach [b] X.env = (false, eval b X.env) :: starEach [] X.env := by rfl) :
    Run X T (.Assign [.Tuple [.Name x px, .Name y py] kt pt] (.Tuple [a, b] k2 pt2) pos :: rest) S k :=
  run_par2 i j (EvA.k (evap_cons ha (evap_cons hb eva_nil hs2) hs1) ⟨d1, d2, rfl, q⟩) hN hij hi hj hx hy hw hs hc
theorem run_par3P (i j l : Nat) {d1 d2 d3 : PyData} {f : Expr} {x y z : Str} {px py pz pt pt2 : Pos} {kt k2 : Nat} (ha : EvP X T a S.drp d1) (hb : EvP X T b S.drp d2) (hf : EvP X T f S.drp d3) (q : Run X T rest ⟨S.b, ((S.sl.set i (some (.dat d1))).set j (some (.dat d2))).set l (some (.dat d3))⟩ k) (hN : X.N.Nodup)
    (hij : i ≠ j := by decide) (hil : i ≠ l := by decide) (hjl : j ≠ l := by decide) (hi : X.N[i]? = some x := by rfl) (hj : X.N[j]? = some y := by rfl) (hl : X.N[l]? = some z := by rfl)
    (hx : X.env.scope.names.lookup x = some .local := by rfl) (hy : X.env.scope.names.lookup y = some .local := by rfl) (hz : X.env.scope.names.lookup z = some .local := by rfl)
    (hw : swappedStores [.Tuple [.Name x px, .Name y py, .Name z pz] kt pt] (.Tuple [a, b, f] k2 pt2) X.env = pure (some [x, y, z]) := by rfl)
    (hs : swapsWithSole [.Tuple [.Name x px, .Name y py, .Name z pz] kt pt] (.Tuple [a, b, f] k2 pt2) pos.line X.env = pure false := by rfl) (hc : X.calm = true := by rfl)
    (hs1 : starEach [a, b, f] X.env = (false, eval a X.env) :: starEach [b, f] X.env := by rfl) (hs2 : starEach [b, f] X.env = (false, eval b X.env) :: starEach [f] X.env := by rfl) (hs3 : starEach [f] X.env = (false, eval f X.env) :: starEach [] X.env := by rfl) :
    Run X T (.Assign [.Tuple [.Name x px, .Name y py, .Name z pz] kt pt] (.Tuple [a, b, f] k2 pt2) pos :: rest) S k :=
  run_par3 i j l (EvA.k (evap_cons ha (evap_cons hb (evap_cons hf eva_nil hs3) hs2) hs1) ⟨d1, d2, d3, rfl, q⟩) hN hij hil hjl hi hj hl hx hy hz hw hs hc
theorem run_takeP {g : TG} {ps : List (Nat × PyData)} (h : EvP X T e S.drp d) (hg : PG X tg g) (hgs : GS X.K g d ps) (q : Run X T rest ⟨S.b, setD S.sl ps⟩ k) (hs : swapsWithSole [tg] e pos.line X.env = pure false := by rfl) (hw : swappedStores [tg] e X.env = pure none := by rfl)
    (h1 : (assignEach [tg] X.env).map (·.2) = [assign tg X.env] := by rfl) : Run X T (.Assign [tg] e pos :: rest) S k := run_take (ps := fun _ => ps) (Ev.k h ⟨ps, hgs, q⟩) hg hs hw h1
end
/-! ### the town's functions -/
def spDraw : SpT := fun ss b κ => ∃ (ns : List Int) (m b' : Nat), ss = [.scr ns, .town, .dat (nD m)] ∧ 0 < m ∧ b = b' + 1 ∧ ∀ r : Nat, r < m → κ (nD r) b'
def spPick : SpT := fun ss b κ => ∃ (ns : List Int) (ds : List PyData) (b' : Nat), ss = [.scr ns, .town, .dat (.list ds)] ∧ 0 < ds.length ∧ b = b' + 1 ∧ ∀ d ∈ ds, κ d b'
def spPrime : SpT := fun ss b κ => ∃ (ns : List Int) (b' : Nat), ss = [.scr ns, .town] ∧ b = b' + 1 ∧ ∀ p : Nat, (p = 2 ∨ p = 3 ∨ p = 5 ∨ p = 7) → κ (nD p) b'
def spNumber : SpT := fun ss b κ => ∃ (ns : List Int) (b' : Nat), ss = [.scr ns, .town] ∧ b = b' + 2 ∧ ∀ r : Nat, r < 1000000000 → κ (nD r) b'
theorem mono_draw : MonoT spDraw := fun ds b κ κ' h ⟨ns, m, b', e, h0, eb, k⟩ => ⟨ns, m, b', e, h0, eb, fun r hr => h _ _ (k r hr)⟩
theorem mono_pick : MonoT spPick := fun ds b κ κ' h ⟨ns, m, b', e, h0, eb, k⟩ => ⟨ns, m, b', e, h0, eb, fun r hr => h _ _ (k r hr)⟩
theorem mono_prime : MonoT spPrime := fun ds b κ κ' h ⟨ns, b', e, eb, k⟩ => ⟨ns, b', e, eb, fun r hr => h _ _ (k r hr)⟩
theorem mono_number : MonoT spNumber := fun ds b κ κ' h ⟨ns, b', e, eb, k⟩ => ⟨ns, b', e, eb, fun r hr => h _ _ (k r hr)⟩
section
variable {X : Cx} {t : Addr} {S : Sta} {e : Expr} {pos p p1 p2 : Pos} {κ : PyData → Nat → Prop} {k : Nat} {x y n : Str}
abbrev VisD (X : Cx) (x : Str) : Prop := Vis X.env.scope x
theorem ev_draw {m b' : Nat} {ns : List Int} (C : CalleeT X.prog X.w X.K X.mg X.base n k spDraw) (hr : Room k X.A) (i j : Nat) (hi : S.sl[i]? = some (some (.scr ns))) (hj : S.sl[j]? = some (some .town)) (he : EvP X (some t) e S (nD m)) (h0 : 0 < m) (hb : S.b = b' + 1) (q : ∀ r : Nat, r < m → κ (nD r) b')
    (hN1 : X.N[i]? = some x := by rfl) (hN2 : X.N[j]? = some y := by rfl) (hv1 : VisD X x := by first | exact Or.inl rfl | exact Or.inr (Or.inl rfl) | exact Or.inr (Or.inr rfl)) (hv2 : VisD X y := by first | exact Or.inl rfl | exact Or.inr (Or.inl rfl) | exact Or.inr (Or.inr rfl))
    (hg : Gl X n := by rfl) (hdb : (n == ("__debug__" : Str)) = false := by decide) (hd1 : (x == ("__debug__" : Str)) = false := by decide) (hd2 : (y == ("__debug__" : Str)) = false := by decide) (hc1 : (x == ("__classdict__" : Str)) = false := by decide) (hc2 : (y == ("__classdict__" : Str)) = false := by decide)
    (hs1 : starEach [.Name x p1, .Name y p2, e] X.env = (false, eval (.Name x p1) X.env) :: starEach [.Name y p2, e] X.env := by rfl) (hs2 : starEach [.Name y p2, e] X.env = (false, eval (.Name y p2) X.env) :: starEach [e] X.env := by rfl) (hs3 : starEach [e] X.env = (false, eval e X.env) :: starEach [] X.env := by rfl)
    (hpl : (backTo pos (starEach [.Name y p2, e] X.env)).any (·.1) = false := by rfl) : Ev X (some t) (.Call (.Name n p) [.Name x p1, .Name y p2, e] [] pos) S κ :=
  ev_fnT C hr (evb_name i hi (evb_name j hj (evb_dat (Ev.k he (evb_nil ⟨ns, m, b', rfl, h0, hb, q⟩)) hs3) hN2 hv2 hd2 hc2 hs2) hN1 hv1 hd1 hc1 hs1) hg hdb hs1 hpl
theorem ev_pick {ds : List PyData} {b' : Nat} {ns : List Int} (C : CalleeT X.prog X.w X.K X.mg X.base n k spPick) (hr : Room k X.A) (i j : Nat) (hi : S.sl[i]? = some (some (.scr ns))) (hj : S.sl[j]? = some (some .town)) (he : EvP X (some t) e S (.list ds)) (h0 : 0 < ds.length) (hb : S.b = b' + 1) (q : ∀ d ∈ ds, κ d b')
    (hN1 : X.N[i]? = some x := by rfl) (hN2 : X.N[j]? = some y := by rfl) (hv1 : VisD X x := by first | exact Or.inl rfl | exact Or.inr (Or.inl rfl) | exact Or.inr (Or.inr rfl)) (hv2 : VisD X y := by first | exact Or.inl rfl | exact Or.inr (Or.inl rfl) | exact Or.inr (Or.inr rfl))
    (hg : Gl X n := by rfl) (hdb : (n == ("__debug__" : Str)) = false := by decide) (hd1 : (x == ("__debug__" : Str)) = false := by decide) (hd2 : (y == ("__debug__" : Str)) = false := by decide) (hc1 : (x == ("__classdict__" : Str)) = false := by decide) (hc2 : (y == ("__classdict__" : Str)) = false := by decide)
    (hs1 : starEach [.Name x p1, .Name y p2, e] X.env = (false, eval (.Name x p1) X.env) :: starEach [.Name y p2, e] X.env := by rfl) (hs2 : starEach [.Name y p2, e] X.env = (false, eval (.Name y p2) X.env) :: starEach [e] X.env := by rfl) (hs3 : starEach [e] X.env = (false, eval e X.env) :: starEach [] X.env := by rfl)
    (hpl : (backTo pos (starEach [.Name y p2, e] X.env)).any (·.1) = false := by rfl) : Ev X (some t) (.Call (.Name n p) [.Name x p1, .Name y p2, e] [] pos) S κ :=
  ev_fnT C hr (evb_name i hi (evb_name j hj (evb_dat (Ev.k he (evb_nil ⟨ns, ds, b', rfl, h0, hb, q⟩)) hs3) hN2 hv2 hd2 hc2 hs2) hN1 hv1 hd1 hc1 hs1) hg hdb hs1 hpl
/-- the drawn thing's argument draws, too -/
theorem ev_drawE {ns : List Int} (C : CalleeT X.prog X.w X.K X.mg X.base n k spDraw) (hr : Room k X.A) (i j : Nat) (hi : S.sl[i]? = some (some (.scr ns))) (hj : S.sl[j]? = some (some .town)) (he : Ev X (some t) e S fun d b => ∃ m b', d = nD m ∧ 0 < m ∧ b = b' + 1 ∧ ∀ r : Nat, r < m → κ (nD r) b')
    (hN1 : X.N[i]? = some x := by rfl) (hN2 : X.N[j]? = some y := by rfl) (hv1 : VisD X x := by first | exact Or.inl rfl | exact Or.inr (Or.inl rfl) | exact Or.inr (Or.inr rfl)) (hv2 : VisD X y := by first | exact Or.inl rfl | exact Or.inr (Or.inl rfl) | exact Or.inr (Or.inr rfl))
    (hg : Gl X n := by rfl) (hdb : (n == ("__debug__" : Str)) = false := by decide) (hd1 : (x == ("__debug__" : Str)) = false := by decide) (hd2 : (y == ("__debug__" : Str)) = false := by decide) (hc1 : (x == ("__classdict__" : Str)) = false := by decide) (hc2 : (y == ("__classdict__" : Str)) = false := by decide)
    (hs1 : starEach [.Name x p1, .Name y p2, e] X.env = (false, eval (.Name x p1) X.env) :: starEach [.Name y p2, e] X.env := by rfl) (hs2 : starEach [.Name y p2, e] X.env = (false, eval (.Name y p2) X.env) :: starEach [e] X.env := by rfl) (hs3 : starEach [e] X.env = (false, eval e X.env) :: starEach [] X.env := by rfl)
    (hpl : (backTo pos (starEach [.Name y p2, e] X.env)).any (·.1) = false := by rfl) : Ev X (some t) (.Call (.Name n p) [.Name x p1, .Name y p2, e] [] pos) S κ :=
  ev_fnT C hr (evb_name i hi (evb_name j hj (evb_dat (he.imp fun d b ⟨m, b', e1, h0, hb, q⟩ => by subst e1; exact evb_nil ⟨ns, m, b', rfl, h0, hb, q⟩) hs3) hN2 hv2 hd2 hc2 hs2) hN1 hv1 hd1 hc1 hs1) hg hdb hs1 hpl
theorem ev_pickE {ns : List Int} (C : CalleeT X.prog X.w X.K X.mg X.base n k spPick) (hr : Room k X.A) (i j : Nat) (hi : S.sl[i]? = some (some (.scr ns))) (hj : S.sl[j]? = some (some .town)) (he : Ev X (some t) e S fun d b => ∃ ds b', d = .list ds ∧ 0 < ds.length ∧ b = b' + 1 ∧ ∀ d ∈ ds, κ d b')
    (hN1 : X.N[i]? = some x := by rfl) (hN2 : X.N[j]? = some y := by rfl) (hv1 : VisD X x := by first | exact Or.inl rfl | exact Or.inr (Or.inl rfl) | exact Or.inr (Or.inr rfl)) (hv2 : VisD X y := by first | exact Or.inl rfl | exact Or.inr (Or.inl rfl) | exact Or.inr (Or.inr rfl))
    (hg : Gl X n := by rfl) (hdb : (n == ("__debug__" : Str)) = false := by decide) (hd1 : (x == ("__debug__" : Str)) = false := by decide) (hd2 : (y == ("__debug__" : Str)) = false := by decide) (hc1 : (x == ("__classdict__" : Str)) = false := by decide) (hc2 : (y == ("__classdict__" : Str)) = false := by decide)
    (hs1 : starEach [.Name x p1, .Name y p2, e] X.env = (false, eval (.Name x p1) X.env) :: starEach [.Name y p2, e] X.env := by rfl) (hs2 : starEach [.Name y p2, e] X.env = (false, eval (.Name y p2) X.env) :: starEach [e] X.env := by rfl) (hs3 : starEach [e] X.env = (false, eval e X.env) :: starEach [] X.env := by rfl)
    (hpl : (backTo pos (starEach [.Name y p2, e] X.env)).any (·.1) = false := by rfl) : Ev X (some t) (.Call (.Name n p) [.Name x p1, .Name y p2, e] [] pos) S κ :=
  ev_fnT C hr (evb_name i hi (evb_name j hj (evb_dat (he.imp fun d b ⟨m, b', e1, h0, hb, q⟩ => by subst e1; exact evb_nil ⟨ns, m, b', rfl, h0, hb, q⟩) hs3) hN2 hv2 hd2 hc2 hs2) hN1 hv1 hd1 hc1 hs1) hg hdb hs1 hpl
theorem ev_town2 {sp : SpT} {ns : List Int} (C : CalleeT X.prog X.w X.K X.mg X.base n k sp) (hr : Room k X.A) (i j : Nat) (hi : S.sl[i]? = some (some (.scr ns))) (hj : S.sl[j]? = some (some .town)) (q : sp [.scr ns, .town] S.b κ)
    (hN1 : X.N[i]? = some x := by rfl) (hN2 : X.N[j]? = some y := by rfl) (hv1 : VisD X x := by first | exact Or.inl rfl | exact Or.inr (Or.inl rfl) | exact Or.inr (Or.inr rfl)) (hv2 : VisD X y := by first | exact Or.inl rfl | exact Or.inr (Or.inl rfl) | exact Or.inr (Or.inr rfl))
    (hg : Gl X n := by rfl) (hdb : (n == ("__debug__" : Str)) = false := by decide) (hd1 : (x == ("__debug__" : Str)) = false := by decide) (hd2 : (y == ("__debug__" : Str)) = false := by decide) (hc1 : (x == ("__classdict__" : Str)) = false := by decide) (hc2 : (y == ("__classdict__" : Str)) = false := by decide)
    (hs1 : starEach [.Name x p1, .Name y p2] X.env = (false, eval (.Name x p1) X.env) :: starEach [.Name y p2] X.env := by rfl) (hs2 : starEach [.Name y p2] X.env = (false, eval (.Name y p2) X.env) :: starEach [] X.env := by rfl)
    (hpl : (backTo pos (starEach [.Name y p2] X.env)).any (·.1) = false := by rfl) : Ev X (some t) (.Call (.Name n p) [.Name x p1, .Name y p2] [] pos) S κ :=
  ev_fnT C hr (evb_name i hi (evb_name j hj (evb_nil q) hN2 hv2 hd2 hc2 hs2) hN1 hv1 hd1 hc1 hs1) hg hdb hs1 hpl
theorem ev_prime {b' : Nat} {ns : List Int} (C : CalleeT X.prog X.w X.K X.mg X.base n k spPrime) (hr : Room k X.A) (i j : Nat) (hi : S.sl[i]? = some (some (.scr ns))) (hj : S.sl[j]? = some (some .town)) (hb : S.b = b' + 1) (q : ∀ p : Nat, (p = 2 ∨ p = 3 ∨ p = 5 ∨ p = 7) → κ (nD p) b')
    (hN1 : X.N[i]? = some x := by rfl) (hN2 : X.N[j]? = some y := by rfl) (hv1 : VisD X x := by first | exact Or.inl rfl | exact Or.inr (Or.inl rfl) | exact Or.inr (Or.inr rfl)) (hv2 : VisD X y := by first | exact Or.inl rfl | exact Or.inr (Or.inl rfl) | exact Or.inr (Or.inr rfl))
    (hg : Gl X n := by rfl) (hdb : (n == ("__debug__" : Str)) = false := by decide) (hd1 : (x == ("__debug__" : Str)) = false := by decide) (hd2 : (y == ("__debug__" : Str)) = false := by decide) (hc1 : (x == ("__classdict__" : Str)) = false := by decide) (hc2 : (y == ("__classdict__" : Str)) = false := by decide)
    (hs1 : starEach [.Name x p1, .Name y p2] X.env = (false, eval (.Name x p1) X.env) :: starEach [.Name y p2] X.env := by rfl) (hs2 : starEach [.Name y p2] X.env = (false, eval (.Name y p2) X.env) :: starEach [] X.env := by rfl)
    (hpl : (backTo pos (starEach [.Name y p2] X.env)).any (·.1) = false := by rfl) : Ev X (some t) (.Call (.Name n p) [.Name x p1, .Name y p2] [] pos) S κ :=
  ev_town2 C hr i j hi hj ⟨ns, b', rfl, hb, q⟩ hN1 hN2 hv1 hv2 hg hdb hd1 hd2 hc1 hc2 hs1 hs2 hpl
theorem ev_number {b' : Nat} {ns : List Int} (C : CalleeT X.prog X.w X.K X.mg X.base n k spNumber) (hr : Room k X.A) (i j : Nat) (hi : S.sl[i]? = some (some (.scr ns))) (hj : S.sl[j]? = some (some .town)) (hb : S.b = b' + 2) (q : ∀ r : Nat, r < 1000000000 → κ (nD r) b')
    (hN1 : X.N[i]? = some x := by rfl) (hN2 : X.N[j]? = some y := by rfl) (hv1 : VisD X x := by first | exact Or.inl rfl | exact Or.inr (Or.inl rfl) | exact Or.inr (Or.inr rfl)) (hv2 : VisD X y := by first | exact Or.inl rfl | exact Or.inr (Or.inl rfl) | exact Or.inr (Or.inr rfl))
    (hg : Gl X n := by rfl) (hdb : (n == ("__debug__" : Str)) = false := by decide) (hd1 : (x == ("__debug__" : Str)) = false := by decide) (hd2 : (y == ("__debug__" : Str)) = false := by decide) (hc1 : (x == ("__classdict__" : Str)) = false := by decide) (hc2 : (y == ("__classdict__" : Str)) = false := by decide)
    (hs1 : starEach [.Name x p1, .Name y p2] X.env = (false, eval (.Name x p1) X.env) :: starEach [.Name y p2] X.env := by rfl) (hs2 : starEach [.Name y p2] X.env = (false, eval (.Name y p2) X.env) :: starEach [] X.env := by rfl)
    (hpl : (backTo pos (starEach [.Name y p2] X.env)).any (·.1) = false := by rfl) : Ev X (some t) (.Call (.Name n p) [.Name x p1, .Name y p2] [] pos) S κ :=
  ev_town2 C hr i j hi hj ⟨ns, b', rfl, hb, q⟩ hN1 hN2 hv1 hv2 hg hdb hd1 hd2 hc1 hc2 hs1 hs2 hpl
end
/-! ### same -/
/-- data that the laws compare: as deep as n -/
def flatD : PyData → Bool
  | .none => true
  | .bool _ => true
  | .int _ => true
  | .str _ => true
  | _ => false
def deepD : Nat → PyData → Bool
  | 0, d => flatD d
  | _ + 1, .none => true
  | _ + 1, .bool _ => true
  | _ + 1, .int _ => true
  | _ + 1, .str _ => true
  | n + 1, .tuple ds => ds.all (deepD n) && decide (ds.length ≤ 100000)
  | _ + 1, _ => false
def spSame (n : Nat) : SpD := fun ds κ => ∃ d, deepD n d = true ∧ ds = [d, d] ∧ κ (.bool true)
theorem mono_same (n : Nat) : Mono (spSame n) := fun ds κ κ' h ⟨d, h1, h2, k⟩ => ⟨d, h1, h2, h _ k⟩

section
variable {X : Cx} {T : Option Addr} {S : Sta} {k : KD} {e a b c tg : Expr} {es : List Expr} {rest body oth : List Stmt} {pos pos' p p1 : Pos} {d : PyData} {x n : Str}
/-- an if whose ways meet -/
theorem run_ifM {q : Bool} (Mid : Sta → Prop) (h : EvT X T c S.frz q) (h1 : q = true → Run X T body S { k with nx := Mid }) (h2 : q = false → Run X T oth S { k with nx := Mid }) (h3 : ∀ S', Mid S' → Run X T rest S' k) : Run X T (.If c body oth pos :: rest) S k :=
  run_if h (fun hb => (h1 hb).imp h3 (fun _ _ z => z) (fun _ z => z) (fun _ z => z)) (fun hb => (h2 hb).imp h3 (fun _ _ z => z) (fun _ z => z) (fun _ z => z))
/-- len(town) -/
theorem ev_lenTown {t : Addr} {κ : PyData → Nat → Prop} (j : Nat) (hj : S.sl[j]? = some (some .town)) (q : ∀ k : Nat, κ (nD k) S.b) (hm : X.mg n = none) (hv' : bootBuiltins n = some (.builtin "len")) (hN : X.N[j]? = some x := by rfl) (hv : Vis X.env.scope x := by first | exact Or.inl rfl | exact Or.inr (Or.inl rfl) | exact Or.inr (Or.inr rfl))
    (hg : Gl X n := by rfl) (hn : n ≠ "__name__" := by decide) (hdb : (n == ("__debug__" : Str)) = false := by decide) (hd : (x == ("__debug__" : Str)) = false := by decide) (hcd : (x == ("__classdict__" : Str)) = false := by decide)
    (hs : starEach [.Name x p1] X.env = (false, eval (.Name x p1) X.env) :: starEach [] X.env := by rfl) (hpl : (backTo pos (starEach [] X.env)).any (·.1) = false := by rfl) : Ev X (some t) (.Call (.Name n p) [.Name x p1] [] pos) S κ := fun R σ H I Q k => by
  obtain ⟨v, e1, t', e2, e3⟩ := I.sl j _ hj
  cases e2
  subst e3
  obtain ⟨_, zs, hz, _⟩ := I.tw t rfl
  exact wpE_of (pe_callB call_len_seq hg hm hv' (pa_cons (pe_var hN hv hd hcd) pa_nil hs) hn hdb hs hpl) ⟨.ref t, e1, t, zs, rfl, .inl (SqL.of hz), k R _ H _ S.b (q zs.length) I Nx.refl (.int _)⟩
/-- the script: truth, length, a cell -/
theorem et_scr {ns : List Int} (j : Nat) (hj : S.sl[j]? = some (some (.scr ns))) (hN : X.N[j]? = some x := by rfl) (hv : Vis X.env.scope x := by first | exact Or.inl rfl | exact Or.inr (Or.inl rfl) | exact Or.inr (Or.inr rfl)) (hd : (x == ("__debug__" : Str)) = false := by decide) (hcd : (x == ("__classdict__" : Str)) = false := by decide) :
    EvT X T (.Name x p1) S (!ns.isEmpty) := fun R σ H I Q k => by
  obtain ⟨v, e1, a, e2, e3⟩ := I.sl j _ hj
  subst e2
  refine wpT_of (pt_truth (pe_var hN hv hd hcd) (by intro _; rfl)) ⟨.ref a, e1, !ns.isEmpty, .inl ⟨_, le_l I.le e3, ?_⟩, k R H I Nx.refl⟩
  cases ns <;> rfl
theorem evp_lenScr {ns : List Int} (j : Nat) (hj : S.sl[j]? = some (some (.scr ns))) (hm : X.mg n = none) (hv' : bootBuiltins n = some (.builtin "len")) (hN : X.N[j]? = some x := by rfl) (hv : Vis X.env.scope x := by first | exact Or.inl rfl | exact Or.inr (Or.inl rfl) | exact Or.inr (Or.inr rfl))
    (hg : Gl X n := by rfl) (hn : n ≠ "__name__" := by decide) (hdb : (n == ("__debug__" : Str)) = false := by decide) (hd : (x == ("__debug__" : Str)) = false := by decide) (hcd : (x == ("__classdict__" : Str)) = false := by decide)
    (hs : starEach [.Name x p1] X.env = (false, eval (.Name x p1) X.env) :: starEach [] X.env := by rfl) (hpl : (backTo pos (starEach [] X.env)).any (·.1) = false := by rfl) : EvP X T (.Call (.Name n p) [.Name x p1] [] pos) S (nD ns.length) := fun R σ H I Q k => by
  obtain ⟨v, e1, a, e2, e3⟩ := I.sl j _ hj
  subst e2
  refine wpE_of (pe_callB call_len_seq hg hm hv' (pa_cons (pe_var hN hv hd hcd) pa_nil hs) hn hdb hs hpl) ⟨.ref a, e1, a, _, rfl, .inl (le_l I.le e3), ?_⟩
  rw [List.length_map]
  exact k R _ H _ S.b ⟨rfl, rfl⟩ I Nx.refl (.int _)
theorem evp_ixScr {ns : List Int} {i : Nat} (j : Nat) (hj : S.sl[j]? = some (some (.scr ns))) (hb : EvP X T b S (nD i)) (hi : i < ns.length) (hN : X.N[j]? = some x := by rfl) (hv : Vis X.env.scope x := by first | exact Or.inl rfl | exact Or.inr (Or.inl rfl) | exact Or.inr (Or.inr rfl)) (hd : (x == ("__debug__" : Str)) = false := by decide) (hcd : (x == ("__classdict__" : Str)) = false := by decide)
    (hs : PlainIx b := by exact fun _ _ => rfl) : EvP X T (.Subscript (.Name x p1) b pos) S (.int (ns.getD i 0)) := fun R σ H I Q k => by
  obtain ⟨v, e1, a, e2, e3⟩ := I.sl j _ hj
  subst e2
  refine wpE_of (pe_ix ix_list (pe_var hN hv hd hcd) pe_wp hs) ⟨.ref a, e1, hb R σ H I _ fun R1 v1 H1 d1 b1 ⟨f1, f2⟩ I1 n1 r1 => ?_⟩
  subst f1 f2
  cases r1
  refine ⟨a, _, (i : Int), .int (ns.getD i 0), rfl, rfl, le_l I1.le (le_l n1.lr e3), atI_nat ?_, k R1 _ H1 _ _ ⟨rfl, rfl⟩ I1 n1 (.int _)⟩
  rw [List.getElem?_map, List.getElem?_eq_getElem hi, List.getD_eq_getElem?_getD, List.getElem?_eq_getElem hi]; rfl
end
theorem int_nD {z : Int} (h : 0 ≤ z) : PyData.int z = nD z.toNat := by show PyData.int z = PyData.int _; congr 1; omega
theorem zipD_self (ds : List PyData) : zipD ds ds = ds.map fun x => .tuple [x, x] := by
  unfold zipD
  induction ds with
  | nil => rfl
  | cons a r ih => rw [List.zipWith_cons_cons, ih]; rfl
theorem all_true {α : Type} (l : List α) : (l.map fun _ => true).all id = true := by
  induction l with
  | nil => rfl
  | cons a r ih => rw [List.map_cons, List.all_cons, ih]; rfl

section
variable {X : Cx} {T : Option Addr} {S : Sta} {e a b c tg : Expr} {es : List Expr} {pos pos' p p1 : Pos} {d : PyData} {x n : Str}
theorem ein_rngE {κ : List PyData → Nat → Prop} (h : Ev X T a S fun d b => ∃ n : Nat, d = nD n ∧ n < 2 ^ 62 ∧ κ (rgN n) b) (hm : X.mg "range" = none) (hg : Gl X "range" := by rfl) (hs : starEach [a] X.env = [(false, eval a X.env)] := by rfl) :
    EvI X T tg (.Call (.Name "range" p) [a] [] pos) S κ :=
  ei_rng1 (h.imp fun d b ⟨n, e1, h1, k⟩ => ⟨(n : Int), e1, by omega, by omega, by rw [rgD_rgN]; exact k⟩) hm hg hs
theorem sm {n : Nat} {d : PyData} (h : deepD n d = true) : spSame n [d, d] (fun d' => d' = .bool true) := ⟨d, h, rfl, rfl⟩
theorem sm2 {n : Nat} {d d' : PyData} (e : d = d') (h : deepD n d = true) : spSame n [d, d'] (fun d' => d' = .bool true) := ⟨d, h, by rw [e], rfl⟩
theorem deep_nD {n k : Nat} : deepD n (nD k) = true := by cases n <;> rfl
theorem deep_T {n : Nat} {ds : List PyData} (h : ∀ d ∈ ds, deepD n d = true) (hl : ds.length ≤ 100000) : deepD (n + 1) (.tuple ds) = true := by
  show (ds.all (deepD n) && decide (ds.length ≤ 100000)) = true
  rw [Bool.and_eq_true]
  exact ⟨List.all_eq_true.mpr h, decide_eq_true hl⟩
theorem deep_N {n : Nat} {ns : List Nat} (hl : ns.length ≤ 100000) : deepD (n + 1) (.tuple (ns.map nD)) = true :=
  deep_T (fun d hd => by obtain ⟨k, _, rfl⟩ := List.mem_map.mp hd; exact deep_nD) (by rw [List.length_map]; exact hl)
end
end PL
set_option maxHeartbeats 4000000
namespace PL
open PySem PySem.Spec PyProof.Rows L2 RZ
section
variable {K : PySem.W.Frag} {B : Bs} {T : Option Addr} {R R' H H' : Hp} {σ : L2.St} {S : Sta} {X : Cx} {a b : Expr} {x y : PyData} {zs : List PyData} {pos : Pos}
theorem HS.frzN (h : HS K B T S R σ H) : Nx T B.R0 B.H0 (frzR S σ R H) H :=
  ⟨h.n.lx, h.n.lr.trans h.leF, fun a na ha hr => by
    by_cases m : Mu S σ a
    · obtain ⟨_, _, _, _, _, w, _⟩ := h.mu m
      exact absurd w ha
    · rw [frzR_no m]; exact h.n.av a na ha hr⟩
/-- the lists that the def made, given out -/
theorem run_retZ {d : PyData} {k : KD} {e : Expr} {rest : List Stmt} (h : EvP X T e S.frz d) (q : k.rt d S.b) : Run X T (.Return (some e) pos :: rest) S k := fun B R σ H I D L =>
  seq_of (ps_ret pe_wp) (h _ σ H I.frz _ fun R1 v H1 d' b k1 I1 n1 r1 => by
    obtain ⟨e1, e2⟩ := k1; subst e1 e2
    exact L.rt R1 v H1 _ _ q I1.le (I.frzN.trans n1) I1.tw r1)
/-- an operator that makes a new list -/
def OpN (X : Cx) (T : Option Addr) (f : Value → Value → Sem Value) (x y : PyData) (zs : List PyData) : Prop := ∀ (S : Sta) (R : Hp) (σ : L2.St) (H : Hp) (a b : V) (Q : VK), HE X.K T S R σ H → Rp X.K R a x → Rp X.K R b y →
  (∀ R' p xs H', HE X.K T S R' σ H' → Nx T R H R' H' → H p = none → T ≠ some p → R' p = none → H' p = some (.lst xs) → RpA X.K R' xs zs → Q (.ref p) H') → ∃ r : R2, OpR X f r ∧ r a b H Q
theorem opN_cat {xs ys : List PyData} (h : xs.length + ys.length ≤ sizeLine) : OpN X T (binaryOp .Add) (.list xs) (.list ys) (xs ++ ys) := fun S R σ H a b Q I ra rb q => by
  cases ra with
  | @lst a us _ ha ra =>
    cases rb with
    | @lst b ws _ hb rb =>
      have l1 := ra.length
      have l2 := rb.length
      refine ⟨_, op_cat, a, b, us, ws, rfl, rfl, I.le _ _ ha, I.le _ _ hb, by omega, fun p hp => ?_⟩
      exact q R p _ _ (I.laid hp) (Nx.laid hp) hp (I.notT hp) (I.le.fre hp) upd_same (ra.append rb)
theorem opN_rep {xs : List PyData} {k : Int} (h : k < 2 ^ 63) (h0 : -(2 ^ 63) ≤ k) (h2 : xs.length * k.toNat ≤ sizeLine) : OpN X T (binaryOp .Mult) (.list xs) (.int k) (List.replicate k.toNat xs).flatten := fun S R σ H a b Q I ra rb q => by
  cases ra with
  | @lst a us _ ha ra =>
    cases rb
    have l1 := ra.length
    refine ⟨_, op_rep, a, k, us, rfl, rfl, I.le _ _ ha, h0, h, by rw [l1]; exact h2, fun p hp => ?_⟩
    exact q R p _ _ (I.laid hp) (Nx.laid hp) hp (I.notT hp) (I.le.fre hp) upd_same (ra.rep k.toNat)
theorem ev_binN {op : Operator} {κ : List PyData → Nat → Prop} (h : Ev X T a S fun x b1 => Ev X T b ⟨b1, S.sl⟩ fun y b2 => ∃ zs, OpN X T (binaryOp op) x y zs ∧ κ zs b2) : EvN X T (.BinOp a op b pos) S κ := fun R σ H I Q q => by
  intro pins s J
  refine wpAny_BinOp (thn (h R σ H I (fun v H1 => wpE X b σ H1 fun u H2 => ∃ r, OpR X (binaryOp op) r ∧ r v u H2 Q) (fun R1 v H1 x b1 k1 I1 n1 r1 => ?_) pins s J) fun v s1 ⟨x', H1, J1, rv, w1⟩ => ?_)
  · refine k1 R1 σ H1 I1 _ fun R2 u H2 y b2 k2 I2 n2 r2 => ?_
    obtain ⟨zs, o, kz⟩ := k2
    exact o _ R2 σ H2 v u Q I2 (r1.le n2.lr) r2 fun R3 p xs H3 I3 n3 hp nt h3 h4 h5 => q R3 p xs H3 zs b2 kz I3 ((n1.trans n2).trans n3) ((n1.trans n2).none_of nt hp) nt h3 h4 h5
  · refine thn (w1 pins s1 J1) fun u s2 ⟨y', H2, J2, ru, w2⟩ => ?_
    obtain ⟨r, o, w2⟩ := w2
    exact o pins s2 σ H2 x' y' v u Q J2 rv ru w2
theorem evn_bin {op : Operator} (ha : EvP X T a S x) (hb : EvP X T b S y) (o : OpN X T (binaryOp op) x y zs) : EvNP X T (.BinOp a op b pos) S zs :=
  ev_binN (Ev.k ha (Ev.k hb ⟨zs, o, rfl, rfl⟩))
theorem atI_back {α : Type} {ds : List α} {k : Nat} (h : k < ds.length) : atI ds (-((k + 1 : Nat) : Int)) = ds[ds.length - 1 - k]? := by
  unfold atI ixN
  rw [if_neg (by omega), if_pos (by omega)]
  show ds[(-((k + 1 : Nat) : Int) + (ds.length : Int)).toNat]? = _
  congr 1; omega
/-- a comprehension that draws, c cells for each -/
theorem evn_draws {tg elt iter : Expr} {scope : Scope} {own : List (Str × Nat)} {g : _} {xs : List PyData} (c : Nat) (P : PyData → Prop) (ps : PyData → List (Nat × PyData)) (hN : X.N.Nodup) (hi : EvIP X T tg iter S xs) (ok : BlkOk X.N X.env.scope scope own) (hg : ForBlk X scope fun Y => PG Y tg g)
    (hz : xs.length ≤ sizeLine) (hb : c * xs.length ≤ S.b) (hps : ∀ x ∈ xs, (∀ q ∈ ps x, q.1 ∈ own.map (·.2)) ∧ GS X.K g x (ps x))
    (he : ∀ x ∈ xs, ∀ b', ForBlk X scope fun Y => Ev Y T elt ⟨b' + c, setD (wipeS S.sl (own.map (·.2))) (ps x)⟩ fun y b2 => b2 = b' ∧ P y)
    (hc : X.calm = true := by rfl) (hs : ∀ x, foldedSetIterable iter X.env x = pure x := by intro _; rfl) : EvN X T (.ListComp elt [⟨tg, iter, [], 0⟩] scope pos) S fun ds b2 => ds.length = xs.length ∧ (∀ d ∈ ds, P d) ∧ b2 + c * xs.length = S.b := by
  refine evn_lc hN hi ok hg (fun ys b ⟨e1, e2⟩ => ?_) hc hs
  subst e1 e2
  refine ⟨fun i acc b => acc.length = i ∧ (∀ d ∈ acc, P d) ∧ b + c * i = S.b, ⟨rfl, fun d z => by (cases z), rfl⟩, hz, fun i x acc b1 hx ⟨ea, ep, eb⟩ => ?_, fun acc b1 h => h⟩
  have hm := List.mem_of_getElem? hx
  have hlt : i < ys.length := (List.getElem?_eq_some_iff.mp hx).1
  obtain ⟨q1, q2⟩ := hps x hm
  have hle : c * (i + 1) ≤ c * ys.length := Nat.mul_le_mul_left _ hlt
  rw [Nat.mul_add, Nat.mul_one] at hle
  obtain ⟨b', rfl⟩ : ∃ b', b1 = b' + c := ⟨b1 - c, by omega⟩
  refine ⟨ps x, q1, q2, true, fun _ _ _ _ _ => rfl, fun _ s H0 C cl fp => ?_, fun z => by cases z⟩
  refine fun R σ H I Q q => he x hm b' s H0 C cl fp R σ H I Q fun R' v H' d b k => q R' v H' d b ⟨?_, ?_, ?_⟩
  · rw [List.length_append, ea]; rfl
  · intro d' hd'
    rcases List.mem_append.mp hd' with h | h
    · exact ep d' h
    · rw [List.mem_singleton] at h; rw [h]; exact k.2
  · rw [k.1, Nat.mul_add]; omega
theorem opnN_cat {ns ms : List Nat} (h : ns.length + ms.length ≤ sizeLine) : OpN X T (binaryOp .Add) (.list (ns.map nD)) (.list (ms.map nD)) ((ns ++ ms).map nD) := by
  rw [List.map_append]
  exact opN_cat (by rw [List.length_map, List.length_map]; exact h)
theorem opnN_rep {i j : Nat} (h1 : i ≤ 16777216) : OpN X T (binaryOp .Mult) (.list [nD j]) (nD i) ((List.replicate i j).map nD) := by
  have := opN_rep (X := X) (T := T) (xs := [nD j]) (k := (i : Int)) (by omega) (by omega) (by show 1 * (i : Int).toNat ≤ sizeLine; rw [sizeLine_eq]; omega)
  rw [rep_one, show (i : Int).toNat = i by omega] at this
  rw [List.map_replicate]; exact this
end
end PL
set_option maxHeartbeats 4000000
namespace PL
open PySem PySem.Spec PyProof.Rows L2 RZ
section
variable {X : Cx} {T : Option Addr} {S : Sta} {a b c e : Expr} {d : PyData} {pos : Pos} {p : Bool} {rest body oth : List Stmt} {k : KD} {es : List Expr} {κ : Bool → Nat → Prop}
theorem evp_notT (h : EvP X T a S d) (ht : truD d = some p) : EvP X T (.UnaryOp .Not a pos) S (.bool (!p)) := fun R σ H I Q k =>
  wpE_of (pe_notT pe_wp) (h R σ H I _ fun R1 v H1 d' b ⟨e1, e2⟩ I1 n1 r1 => by
    subst e1 e2
    refine ⟨p, ?_, k R1 _ H1 _ _ ⟨rfl, rfl⟩ I1 n1 (.bl _)⟩
    cases r1 with
    | non => cases ht; rfl
    | bl b => cases ht; rfl
    | int b => cases ht; rfl
    | str b => cases ht
    | lst q r => cases ht; exact .inl ⟨_, SqL.of (I1.le _ _ q), by rw [rpa_empty r]⟩
    | tup q r => cases ht; exact .inr (.inl ⟨_, le_t I1.le q, by rw [rpa_empty r]⟩)
    | ptu q r => cases ht
    | rf => cases ht)
/-- tests that draw -/
def EvTk (X : Cx) (T : Option Addr) (e : Expr) (S : Sta) (κ : Bool → Nat → Prop) : Prop := ∀ (R : Hp) (σ : L2.St) (H : Hp), HE X.K T S R σ H → ∀ Q : Bool → Hp → Prop,
  (∀ (R' H' : Hp) (c : Bool) (b : Nat), κ c b → HE X.K T ⟨b, S.sl⟩ R' σ H' → Nx T R H R' H' → Q c H') → wpT X e σ H Q
def EvWk (X : Cx) (T : Option Addr) (e : Expr) (S : Sta) (κ : Bool → Nat → Prop) : Prop := ∀ (R : Hp) (σ : L2.St) (H : Hp), HE X.K T S R σ H → ∀ Q : Bool → Hp → Prop,
  (∀ (R' H' : Hp) (c : Bool) (b : Nat), κ c b → HE X.K T ⟨b, S.sl⟩ R' σ H' → Nx T R H R' H' → Q c H') → wpW X e σ H Q
theorem EvTk.kk (h : EvT X T e S p) (q : κ p S.b) : EvTk X T e S κ := fun R σ H I Q k => h R σ H I Q fun R1 H1 I1 n1 => k R1 H1 p S.b q I1 n1
theorem EvWk.kk (h : EvW X T e S p) (q : κ p S.b) : EvWk X T e S κ := fun R σ H I Q k => h R σ H I Q fun R1 H1 I1 n1 => k R1 H1 p S.b q I1 n1
theorem etk_cmp {op : CmpOp} (h : Ev X T a S fun x b1 => Ev X T b ⟨b1, S.sl⟩ fun y b2 => ∃ c, OpD X T (compareOp op) x y (.bool c) ∧ κ c b2) (hm : behindInMarks op b = false) : EvTk X T (.Compare a [op] [b] pos) S κ := fun R σ H I Q q => by
  intro pins s J
  refine wpAny_isTrue_Compare1 (thn (h R σ H I (fun v H1 => wpE X b σ H1 fun u H2 => ∃ r, OpR X (compareOp op) r ∧ r v u H2 fun w H3 => ∃ k, w = .bl k ∧ Q k H3) (fun R1 v H1 x b1 k1 I1 n1 r1 => ?_) pins s J) fun v s1 ⟨x', H1, J1, rv, w1⟩ => ?_) hm
  · refine k1 R1 σ H1 I1 _ fun R2 u H2 y b2 k2 I2 n2 r2 => ?_
    obtain ⟨c, o, kc⟩ := k2
    refine o _ R2 σ H2 v u _ I2 (r1.le n2.lr) r2 fun R3 c' H3 I3 n3 r3 => ?_
    cases r3
    exact ⟨c, rfl, q R3 H3 c b2 kc I3 ((n1.trans n2).trans n3)⟩
  · refine thn (w1 pins s1 J1) fun u s2 ⟨y', H2, J2, ru, w2⟩ => ?_
    obtain ⟨r, o, w2⟩ := w2
    refine thn (o pins s2 σ H2 x' y' v u _ J2 rv ru w2) fun w s3 ⟨z', H3, J3, rw', k, ek, w3⟩ => ?_
    subst ek
    cases rw'
    exact wpAny_truthy_bool ⟨H3, J3, w3⟩
theorem etk_val (h : Ev X T e S fun d b => ∃ c, d = .bool c ∧ κ c b) (he : ∀ whole, isTrue e X.env whole = (do let v ← whole; standAt e.pos; holding [v] (truthy v)) := by intro _; rfl) : EvTk X T e S κ := fun R σ H I Q k =>
  wpT_of (pt_val pe_wp he) (h R σ H I _ fun R1 v H1 d b ⟨c, e1, kc⟩ I1 n1 r1 => by
    subst e1
    cases r1
    exact ⟨c, rfl, k R1 H1 c b kc I1 n1⟩)
theorem etk_not (h : EvTk X T e S fun c b => κ (!c) b) : EvTk X T (.UnaryOp .Not e pos) S κ := fun R σ H I Q k => wpT_of (pt_not pt_wp) (h R σ H I _ fun R1 H1 c b kc I1 n1 => k R1 H1 (!c) b kc I1 n1)
theorem etk_w (h : EvWk X T e S κ) : EvTk X T e S κ := fun R σ H I Q k => wpT_of pw_wp.pt (h R σ H I Q k)
theorem ewk_and1 (h : EvTk X T a S κ) : EvWk X T (.BoolOp .And [a] pos) S κ := fun R σ H I Q k => wpW_of (pw_and1 pt_wp) (h R σ H I Q k)
theorem ewk_or1 (h : EvTk X T a S κ) : EvWk X T (.BoolOp .Or [a] pos) S κ := fun R σ H I Q k => wpW_of (pw_or1 pt_wp) (h R σ H I Q k)
theorem ewk_and (h : EvTk X T a S fun p b1 => (p = true → EvWk X T (.BoolOp .And (b :: es) pos) ⟨b1, S.sl⟩ κ) ∧ (p = false → κ false b1)) : EvWk X T (.BoolOp .And (a :: b :: es) pos) S κ := fun R σ H I Q k =>
  wpW_of (pw_and pt_wp pw_wp) (h R σ H I _ fun R1 H1 p b1 kp I1 n1 => by
    cases p with
    | true => exact iteT (kp.1 rfl R1 σ H1 I1 Q fun R2 H2 c b2 kc I2 n2 => k R2 H2 c b2 kc I2 (n1.trans n2))
    | false => exact iteF (k R1 H1 false b1 (kp.2 rfl) I1 n1))
theorem ewk_or (h : EvTk X T a S fun p b1 => (p = false → EvWk X T (.BoolOp .Or (b :: es) pos) ⟨b1, S.sl⟩ κ) ∧ (p = true → κ true b1)) : EvWk X T (.BoolOp .Or (a :: b :: es) pos) S κ := fun R σ H I Q k =>
  wpW_of (pw_or pt_wp pw_wp) (h R σ H I _ fun R1 H1 p b1 kp I1 n1 => by
    cases p with
    | true => exact iteT (k R1 H1 true b1 (kp.2 rfl) I1 n1)
    | false => exact iteF (kp.1 rfl R1 σ H1 I1 Q fun R2 H2 c b2 kc I2 n2 => k R2 H2 c b2 kc I2 (n1.trans n2)))
theorem run_ifk (h : EvTk X T c S.drp fun p b => (p = true → Run X T body ⟨b, S.sl⟩ { k with nx := fun S' => Run X T rest S' k }) ∧ (p = false → Run X T oth ⟨b, S.sl⟩ { k with nx := fun S' => Run X T rest S' k })) : Run X T (.If c body oth pos :: rest) S k := fun B R σ H I D L => by
  have LL : Lift X.K B T { k with nx := fun S' => Run X T rest S' k } { D with nx := wpSs X rest D } := ⟨fun S' R' σ' H' q I' => q B R' σ' H' I' D L, L.bk, L.ct, L.rt⟩
  refine seq_of (ps_if pt_wp pss_wp pss_wp) (h R σ H I.drp _ fun R1 H1 p b1 kp I1 n1 => ?_)
  have I2 := I.after I1.le n1 I1.tw
  cases p with
  | true => exact iteT (kp.1 rfl B _ σ H1 I2 _ LL)
  | false => exact iteF (kp.2 rfl B _ σ H1 I2 _ LL)
/-- .. of which is known that it does not hold -/
theorem run_nok (h : EvTk X T c S.drp fun p b => p = false ∧ Run X T rest ⟨b, S.sl⟩ k) : Run X T (.If c body [] pos :: rest) S k :=
  run_ifk fun R σ H I Q q => h R σ H I Q fun R1 H1 c b ⟨e1, r⟩ I1 n1 => q R1 H1 c b ⟨fun z => (by rw [e1] at z; cases z), fun _ => run_nil r⟩ I1 n1
/-- a comprehension that draws, over what is drawn -/
theorem evn_drawsE {tg elt iter : Expr} {scope : Scope} {own : List (Str × Nat)} {g : _} {κi : List PyData → Nat → Prop} (c : Nat) (P : PyData → Prop) (ps : PyData → List (Nat × PyData)) (hN : X.N.Nodup) (hi : EvI X T tg iter S κi) (ok : BlkOk X.N X.env.scope scope own) (hg : ForBlk X scope fun Y => PG Y tg g)
    (hz : ∀ xs b, κi xs b → xs.length ≤ sizeLine ∧ c * xs.length ≤ b ∧ ∀ x ∈ xs, (∀ q ∈ ps x, q.1 ∈ own.map (·.2)) ∧ GS X.K g x (ps x))
    (he : ∀ xs b, κi xs b → ∀ x ∈ xs, ∀ b', ForBlk X scope fun Y => Ev Y T elt ⟨b' + c, setD (wipeS S.sl (own.map (·.2))) (ps x)⟩ fun y b2 => b2 = b' ∧ P y)
    (hc : X.calm = true := by rfl) (hs : ∀ x, foldedSetIterable iter X.env x = pure x := by intro _; rfl) : EvN X T (.ListComp elt [⟨tg, iter, [], 0⟩] scope pos) S fun ds b2 => ∃ xs b, κi xs b ∧ ds.length = xs.length ∧ (∀ d ∈ ds, P d) ∧ b2 + c * xs.length = b := by
  refine evn_lc hN hi ok hg (fun ys b hk => ?_) hc hs
  obtain ⟨z1, z2, z3⟩ := hz ys b hk
  refine ⟨fun i acc b1 => acc.length = i ∧ (∀ d ∈ acc, P d) ∧ b1 + c * i = b, ⟨rfl, fun d z => by (cases z), rfl⟩, z1, fun i x acc b1 hx ⟨ea, ep, eb⟩ => ?_, fun acc b1 h => ⟨ys, b, hk, h⟩⟩
  have hm := List.mem_of_getElem? hx
  have hlt : i < ys.length := (List.getElem?_eq_some_iff.mp hx).1
  obtain ⟨q1, q2⟩ := z3 x hm
  have hle : c * (i + 1) ≤ c * ys.length := Nat.mul_le_mul_left _ hlt
  rw [Nat.mul_add, Nat.mul_one] at hle
  obtain ⟨b', rfl⟩ : ∃ b', b1 = b' + c := ⟨b1 - c, by omega⟩
  refine ⟨ps x, q1, q2, true, fun _ _ _ _ _ => rfl, fun _ s H0 C cl fp => ?_, fun z => by cases z⟩
  refine fun R σ H I Q q => he ys b hk x hm b' s H0 C cl fp R σ H I Q fun R' v H' d b2 k => q R' v H' d b2 ⟨?_, ?_, ?_⟩
  · rw [List.length_append, ea]; rfl
  · intro d' hd'
    rcases List.mem_append.mp hd' with h | h
    · exact ep d' h
    · rw [List.mem_singleton] at h; rw [h]; exact k.2
  · rw [k.1, Nat.mul_add]; omega
theorem nats_of {Q : Nat → Prop} : ∀ {ds : List PyData}, (∀ d ∈ ds, ∃ n, d = nD n ∧ Q n) → ∃ ns : List Nat, ds = ns.map nD ∧ ∀ n ∈ ns, Q n
  | [], _ => ⟨[], rfl, fun n z => by cases z⟩
  | d :: r, h => by
    obtain ⟨n, e, q⟩ := h d List.mem_cons_self
    obtain ⟨ns, e2, q2⟩ := nats_of (ds := r) fun x hx => h x (List.mem_cons_of_mem _ hx)
    exact ⟨n :: ns, by rw [e, e2]; rfl, fun m hm => by
      rcases List.mem_cons.mp hm with z | z
      · rw [z]; exact q
      · exact q2 m z⟩
theorem rg2N_length (m n : Nat) : (rg2N m n).length = n - m := by unfold rg2N; rw [List.length_map, List.length_range']
theorem mapN_get {l : List Nat} {i : Nat} {x : PyData} (h : (l.map nD)[i]? = some x) : ∃ y, l[i]? = some y ∧ x = nD y := by
  rw [List.getElem?_map] at h
  cases w : l[i]? with
  | none => rw [w] at h; cases h
  | some y => rw [w] at h; exact ⟨y, rfl, (Option.some.inj h).symm⟩
theorem rg2N_get {m n i : Nat} {x : PyData} (h : (rg2N m n)[i]? = some x) : i < n - m ∧ x = nD (m + i) := by
  have hl : i < n - m := by rw [← rg2N_length]; exact (List.getElem?_eq_some_iff.mp h).1
  obtain ⟨y, e1, e2⟩ := mapN_get h
  rw [List.getElem?_range' hl] at e1
  cases e1
  exact ⟨hl, by rw [e2, Nat.one_mul]⟩
end
section
variable {X : Cx} {t : Addr} {S : Sta} {e : Expr} {pos p p1 p2 : Pos} {κ : PyData → Nat → Prop} {k : Nat} {x y n : Str}
theorem ev_pickN {ms : List Nat} {b' : Nat} {ns : List Int} (C : CalleeT X.prog X.w X.K X.mg X.base n k spPick) (hr : Room k X.A) (i j : Nat) (hi : S.sl[i]? = some (some (.scr ns))) (hj : S.sl[j]? = some (some .town)) (he : EvP X (some t) e S (.list (ms.map nD))) (h0 : 0 < ms.length) (hb : S.b = b' + 1) (q : ∀ m ∈ ms, κ (nD m) b')
    (hN1 : X.N[i]? = some x := by rfl) (hN2 : X.N[j]? = some y := by rfl) (hv1 : VisD X x := by first | exact Or.inl rfl | exact Or.inr (Or.inl rfl) | exact Or.inr (Or.inr rfl)) (hv2 : VisD X y := by first | exact Or.inl rfl | exact Or.inr (Or.inl rfl) | exact Or.inr (Or.inr rfl))
    (hg : Gl X n := by rfl) (hdb : (n == ("__debug__" : Str)) = false := by decide) (hd1 : (x == ("__debug__" : Str)) = false := by decide) (hd2 : (y == ("__debug__" : Str)) = false := by decide) (hc1 : (x == ("__classdict__" : Str)) = false := by decide) (hc2 : (y == ("__classdict__" : Str)) = false := by decide)
    (hs1 : starEach [.Name x p1, .Name y p2, e] X.env = (false, eval (.Name x p1) X.env) :: starEach [.Name y p2, e] X.env := by rfl) (hs2 : starEach [.Name y p2, e] X.env = (false, eval (.Name y p2) X.env) :: starEach [e] X.env := by rfl) (hs3 : starEach [e] X.env = (false, eval e X.env) :: starEach [] X.env := by rfl)
    (hpl : (backTo pos (starEach [.Name y p2, e] X.env)).any (·.1) = false := by rfl) : Ev X (some t) (.Call (.Name n p) [.Name x p1, .Name y p2, e] [] pos) S κ :=
  ev_pick C hr i j hi hj he (by rw [List.length_map]; exact h0) hb (fun d hd => by obtain ⟨m, hm, rfl⟩ := List.mem_map.mp hd; exact q m hm) hN1 hN2 hv1 hv2 hg hdb hd1 hd2 hc1 hc2 hs1 hs2 hs3 hpl
end
end PL
set_option maxHeartbeats 4000000
namespace PL
open PySem PySem.Spec PyProof.Rows L2 RZ
def spNumB : SpT := fun ss b κ => ∃ (ns : List Int) (m b' : Nat), ss = [.scr ns, .town, .dat (nD m)] ∧ (2 ≤ m ∧ m ≤ 7) ∧ b = b' + 6 ∧ ∀ r : Nat, r < 1000000000 → κ (nD r) b'
theorem mono_numB : MonoT spNumB := fun ds b κ κ' h ⟨ns, m, b', e, h0, eb, k⟩ => ⟨ns, m, b', e, h0, eb, fun r hr => h _ _ (k r hr)⟩
section
variable {X : Cx} {t : Addr} {S : Sta} {e : Expr} {pos p p1 p2 : Pos} {κ : PyData → Nat → Prop} {k : Nat} {x y n : Str}
theorem ev_numB {m b' : Nat} {ns : List Int} (C : CalleeT X.prog X.w X.K X.mg X.base n k spNumB) (hr : Room k X.A) (i j : Nat) (hi : S.sl[i]? = some (some (.scr ns))) (hj : S.sl[j]? = some (some .town)) (he : EvP X (some t) e S (nD m)) (h0 : 2 ≤ m ∧ m ≤ 7) (hb : S.b = b' + 6) (q : ∀ r : Nat, r < 1000000000 → κ (nD r) b')
    (hN1 : X.N[i]? = some x := by rfl) (hN2 : X.N[j]? = some y := by rfl) (hv1 : VisD X x := by first | exact Or.inl rfl | exact Or.inr (Or.inl rfl) | exact Or.inr (Or.inr rfl)) (hv2 : VisD X y := by first | exact Or.inl rfl | exact Or.inr (Or.inl rfl) | exact Or.inr (Or.inr rfl))
    (hg : Gl X n := by rfl) (hdb : (n == ("__debug__" : Str)) = false := by decide) (hd1 : (x == ("__debug__" : Str)) = false := by decide) (hd2 : (y == ("__debug__" : Str)) = false := by decide) (hc1 : (x == ("__classdict__" : Str)) = false := by decide) (hc2 : (y == ("__classdict__" : Str)) = false := by decide)
    (hs1 : starEach [.Name x p1, .Name y p2, e] X.env = (false, eval (.Name x p1) X.env) :: starEach [.Name y p2, e] X.env := by rfl) (hs2 : starEach [.Name y p2, e] X.env = (false, eval (.Name y p2) X.env) :: starEach [e] X.env := by rfl) (hs3 : starEach [e] X.env = (false, eval e X.env) :: starEach [] X.env := by rfl)
    (hpl : (backTo pos (starEach [.Name y p2, e] X.env)).any (·.1) = false := by rfl) : Ev X (some t) (.Call (.Name n p) [.Name x p1, .Name y p2, e] [] pos) S κ :=
  ev_fnT C hr (evb_name i hi (evb_name j hj (evb_dat (Ev.k he (evb_nil ⟨ns, m, b', rfl, h0, hb, q⟩)) hs3) hN2 hv2 hd2 hc2 hs2) hN1 hv1 hd1 hc1 hs1) hg hdb hs1 hpl
end
section
variable {X : Cx} {T : Option Addr} {S : Sta} {a b c : Expr} {pos : Pos} {x y z : PyData} {p q : Bool}
theorem evp_chn {op op' : CmpOp} (ha : EvP X T a S x) (hb : EvP X T b S y) (hc : EvP X T c S z) (o : OpD X T (compareOp op) x y (.bool p)) (o' : OpD X T (compareOp op') y z (.bool q)) (hm : lastMarks [op, op'] [b, c] = false := by with_unfolding_all rfl) :
    EvP X T (.Compare a [op, op'] [b, c] pos) S (.bool (p && q)) := fun R σ H I Q k => by
  refine wpE_of (pe_chain op_wp op_wp pe_wp pe_wp pe_wp hm) ?_
  refine ha R σ H I _ fun R1 v H1 x1 b1 k1 I1 n1 r1 => ?_
  obtain ⟨e1, e2⟩ := k1; subst e1 e2
  refine hb R1 σ H1 I1 _ fun R2 u H2 y1 b2 k2 I2 n2 r2 => ?_
  obtain ⟨e1, e2⟩ := k2; subst e1 e2
  obtain ⟨r, w1, w2⟩ := o S R2 σ H2 v u (fun z H3 => ∃ k, z = .bl k ∧ (if k = true then wpE X c σ H3 fun w' H4 => wpO2 X (compareOp op') u w' H4 Q else Q (.bl false) H3)) I2 (r1.le n2.lr) r2 fun R3 c3 H3 I3 n3 r3 => by
    cases r3
    refine ⟨p, rfl, ?_⟩
    cases p with
    | true =>
      refine iteT (hc R3 σ H3 I3 _ fun R4 w H4 z1 b4 k4 I4 n4 r4 => ?_)
      obtain ⟨e1, e2⟩ := k4; subst e1 e2
      obtain ⟨r', w3, w4⟩ := o' S R4 σ H4 u w Q I4 (r2.le (n3.lr.trans n4.lr)) r4 fun R5 c5 H5 I5 n5 r5 => by
        cases r5
        exact k R5 _ H5 _ _ ⟨rfl, rfl⟩ I5 ((((n1.trans n2).trans n3).trans n4).trans n5) (.bl _)
      exact opR_wp w3 w4
    | false => exact iteF (k R3 _ H3 _ _ ⟨rfl, rfl⟩ I3 ((n1.trans n2).trans n3) (.bl _))
  exact opR_wp w1 w2
/-! equality of tuples of naturals -/
theorem eqv_nD (i j : Nat) : PyData.eqv (nD i) (nD j) = decide (i = j) := by
  show ((i : Int) == (j : Int)) = _
  rw [Bool.beq_eq_decide_eq]
  exact dec_congr (by omega)
theorem eqvAll_N : ∀ (a b : List Nat), PyData.eqvAll (a.map nD) (b.map nD) = decide (a = b)
  | [], [] => rfl
  | x :: a, y :: b => by
    show (PyData.eqv (nD x) (nD y) && PyData.eqvAll (a.map nD) (b.map nD)) = _
    rw [eqv_nD, eqvAll_N a b, ← Bool.decide_and]
    exact dec_congr (by rw [List.cons.injEq])
  | [], _ :: _ => rfl
  | _ :: _, [] => rfl
theorem eqv_TN (a b : List Nat) : PyData.eqv (.tuple (a.map nD)) (.tuple (b.map nD)) = decide (a = b) := eqvAll_N a b
theorem eqv_LN (a b : List Nat) : PyData.eqv (.list (a.map nD)) (.list (b.map nD)) = decide (a = b) := eqvAll_N a b
theorem canLay_N : ∀ ns : List Nat, PyData.canLayAll0 (ns.map nD) = true
  | [] => rfl
  | _ :: r => canLay_N r
theorem depth_N : ∀ ns : List Nat, PyData.depthAll (ns.map nD) = 0
  | [] => rfl
  | x :: r => by show max 0 (PyData.depthAll (r.map nD)) = 0; rw [depth_N r]; rfl
theorem shaped_TN (ns : List Nat) : SeqAt.shaped (.tuple (ns.map nD)) = true := by
  unfold SeqAt.shaped
  rw [Bool.and_eq_true, decide_eq_true_eq]
  exact ⟨canLay_N ns, by show PyData.depthAll (ns.map nD) + 1 ≤ 64; rw [depth_N]; omega⟩
theorem shaped_LN (ns : List Nat) : SeqAt.shaped (.list (ns.map nD)) = true := by
  unfold SeqAt.shaped
  rw [Bool.and_eq_true, decide_eq_true_eq]
  exact ⟨canLay_N ns, by show PyData.depthAll (ns.map nD) + 1 ≤ 64; rw [depth_N]; omega⟩
theorem opn_eqT {a b : List Nat} (hu : X.A.units + 64 < cLine) : OpD X T (compareOp .Eq) (.tuple (a.map nD)) (.tuple (b.map nD)) (.bool (decide (a = b))) := by
  rw [← eqv_TN]; exact opd_eqD hu (shaped_TN a) (shaped_TN b)
theorem opn_neT {a b : List Nat} (hu : X.A.units + 64 < cLine) : OpD X T (compareOp .NotEq) (.tuple (a.map nD)) (.tuple (b.map nD)) (.bool (!decide (a = b))) := by
  rw [← eqv_TN]; exact opd_neD hu (shaped_TN a) (shaped_TN b)
theorem opn_eqL {a b : List Nat} (hu : X.A.units + 64 < cLine) : OpD X T (compareOp .Eq) (.list (a.map nD)) (.list (b.map nD)) (.bool (decide (a = b))) := by
  rw [← eqv_LN]; exact opd_eqD hu (shaped_LN a) (shaped_LN b)
theorem opn_neL {a b : List Nat} (hu : X.A.units + 64 < cLine) : OpD X T (compareOp .NotEq) (.list (a.map nD)) (.list (b.map nD)) (.bool (!decide (a = b))) := by
  rw [← eqv_LN]; exact opd_neD hu (shaped_LN a) (shaped_LN b)
/-! slices of tuples of naturals -/
theorem cutD_take {ns : List Nat} {k : Nat} : cutD (ns.map nD) none (some (k : Int)) = (ns.take k).map nD := by
  unfold cutD
  rw [HT.sIx_none, HT.sIx_nat, List.drop_zero, Nat.sub_zero, List.length_map, ← List.map_take]
  congr 1
  rcases Nat.le_total k ns.length with g | g
  · rw [Nat.min_eq_left g]
  · rw [Nat.min_eq_right g, List.take_length, List.take_of_length_le g]
theorem cutD_drop {ns : List Nat} {k : Nat} : cutD (ns.map nD) (some (k : Int)) none = (ns.drop k).map nD := by
  unfold cutD
  rw [HT.sIx_none, HT.sIx_nat, List.length_map, ← List.map_drop, ← List.map_take]
  congr 1
  rcases Nat.le_total k ns.length with g | g
  · rw [Nat.min_eq_left g, List.take_of_length_le (by rw [List.length_drop]; exact Nat.le_refl _)]
  · rw [Nat.min_eq_right g, Nat.sub_self, List.take_zero, List.drop_of_length_le g]
theorem cutD_last {ns : List Nat} : cutD (ns.map nD) (some (-((1 : Nat) : Int))) none = (ns.drop (ns.length - 1)).map nD := by
  unfold cutD
  have e : HT.sIx (ns.map nD).length 0 (some (-((1 : Nat) : Int))) = ns.length - 1 := by
    show (if (-((1 : Nat) : Int)) < 0 then (-((1 : Nat) : Int) + ((ns.map nD).length : Int)).toNat else min (-((1 : Nat) : Int)).toNat (ns.map nD).length) = _
    rw [if_pos (by decide), List.length_map]; omega
  rw [HT.sIx_none, e, List.length_map, ← List.map_drop, ← List.map_take]
  congr 1
  rw [List.take_of_length_le (by rw [List.length_drop]; exact Nat.le_refl _)]
end
end PL
set_option maxHeartbeats 4000000
/-! enumerate of a tuple -/
namespace PL
open PySem PySem.Spec PyProof.Rows L2 RZ
open Sem (wp)
open AutoSeq1 (wpAny_loadPart')
theorem meets_enumerate_newT (l : Addr) (items : Array Value) (n : Nat) (dct : Option Addr) (sl : Array (Option Value)) :
    Meets (Builtin.«enumerate.__new__» ⟨[.type "enumerate", .ref l], []⟩) (fun _ R s => s.heap.get? l = some { cls := .type "tuple", dict := dct, data := .seq items n, slots := sl } ∧
      R (.ok (.ret (.ref (s.heap.push { cls := .type "tuple_iterator", data := .fields #[.ref l, .int 0 0] }).objs.size)))
        { s with heap := (s.heap.push { cls := .type "tuple_iterator", data := .fields #[.ref l, .int 0 0] }).push { cls := .type "enumerate", data := .fields #[.none, .bool false, .ref s.heap.objs.size, rawInt 0, .none, .none] } }) :=
  .of_wp fun prog w A R s h => by
    obtain ⟨hp, g, d, tk, os⟩ := s; obtain ⟨hl, h⟩ := h
    have hsub := sub_enumerate
    have hL : Heap.IsTuple (Shared.heap ⟨hp, g, d, tk, os⟩) l items := ⟨_, hl, rfl, n, rfl⟩
    wp_walk using wpAny_loadPart' hl
    refine wpAny_stack_any fun st => wpAny_pure ?_
    split
    · rename_i c _ _ _ _ _
      cases (c == Value.type "enumerate")
      · wp_walk using wpAny_loadPart' hl, wpAny_pyIter_tuple hL
        exact ⟨_, rfl, h⟩
      · wp_walk using wpAny_loadPart' hl, wpAny_pyIter_tuple hL
        exact ⟨_, rfl, h⟩
    · wp_walk using wpAny_loadPart' hl, wpAny_pyIter_tuple hL
      exact ⟨_, rfl, h⟩
section
variable {prog : Program} {w : World} {A : Around} {E : Value → Shared → Prop} {s : Shared}
theorem call_enumerate_tuple {l : Addr} {items : Array Value} {Q : Value → Shared → Prop} (hL : s.heap.IsTuple l items)
    (h : ∀ h', IsEnum h' (s.heap.objs.size + 1) s.heap.objs.size 0 .none → h'.IsTupleIter s.heap.objs.size l 0 → h'.objs.size = s.heap.objs.size + 2 →
      (∀ b o, s.heap.get? b = some o → h'.get? b = some o) → Q (.ref (s.heap.objs.size + 1)) { s with heap := h' }) :
    wpAny (model prog w) A (call (.type "enumerate") [.ref l]) Q E s := by
  obtain ⟨⟨c, dct, dt, sl⟩, hl, hc, n, hd⟩ := hL
  replace hc : c = .type "tuple" := hc
  replace hd : dt = .seq items n := hd
  subst hc hd
  refine callType_new F.called_enumerate (by decide) (F.typeCall_enumerate_1 _) (F.newCall_enumerate_1 _) (fun obj => F.args_object_init_2 obj _) F.entry_enumerate_new
    (meets_enumerate_newT l items n dct sl) ⟨hl, ?_⟩
  have hz : (s.heap.push { cls := .type "tuple_iterator", data := .fields #[.ref l, .int 0 0] }).objs.size = s.heap.objs.size + 1 := Heap.size_push ..
  show _ ∧ _
  rw [hz]
  have he : IsEnum ((s.heap.push { cls := .type "tuple_iterator", data := .fields #[.ref l, .int 0 0] }).push
      { cls := .type "enumerate", data := .fields #[.none, .bool false, .ref s.heap.objs.size, rawInt 0, .none, .none] }) (s.heap.objs.size + 1) s.heap.objs.size 0 .none := by
    have := Heap.get?_push_size (s.heap.push { cls := .type "tuple_iterator", data := .fields #[.ref l, .int 0 0] })
      (o := { cls := .type "enumerate", data := .fields #[.none, .bool false, .ref s.heap.objs.size, rawInt 0, .none, .none] }) rfl
    rw [hz] at this; exact this
  refine ⟨⟨_, he, rfl⟩, h _ he ⟨_, Heap.get?_push_of_some _ (Heap.get?_push_size _ rfl), rfl, rfl⟩ (by rw [Heap.size_push, hz]) fun b o x => Heap.get?_push_of_some _ (Heap.get?_push_of_some _ x)⟩
end
theorem Draws.tuple {prog : Program} {w : World} {A : Around} (hh : A.handled = none) (it l : Addr) (hne : l ≠ it) (items : Array Value) :
    Draws prog w A it [it, l] items.size (fun i v => items[i]? = some v) (fun i h => h.IsTupleIter it l i ∧ h.IsTuple l items) where
  live := fun _ _ st => let ⟨o, ho, _⟩ := st.1; ⟨o, ho⟩
  frame := fun _ _ _ st hk => ⟨st.1.at fun o e => hk it (by simp) o e, st.2.at fun o e => hk l (by simp) o e⟩
  item := fun i s Q E hi st hQ => by
    refine nextOf_tuple_item st.1 st.2 (x := items[i]) (by simp [hi]) fun h' hit' hs' => ?_
    exact hQ _ h' s.toks (by simp [hi]) ⟨hit', st.2.extBut hs'.extBut hne⟩ hs'
  done := fun s Q E st hE => nextOf_tuple_end hh st.1 st.2 (by simp) hE
theorem pyNext_enumT_end {prog : Program} {w : World} {A : Around} {E : Value → Shared → Prop} {s : Shared} {e it l : Addr} {i : Nat} {items : Array Value} {old : Value} {Q : Option Value → Shared → Prop} (hh : A.handled = none)
    (he : IsEnum s.heap e it i old) (hit : s.heap.IsTupleIter it l i) (hl : s.heap.IsTuple l items) (hx : items[i]? = none)
    (hQ : ∀ h', Heap.ExtBut it s.heap h' → Q none { s with heap := h' }) : wpAny (model prog w) A (pyNext (.ref e)) Q E s := by
  have hT : s.TypeIs (.ref e) "enumerate" := ⟨_, he, rfl⟩
  unfold pyNext
  refine wpAny_bind (wpAny_attempt (wpAny_callSpecial?_slot (name := Str.ofString "__next__") hT F.slot_enumerate_next
    (wpAny_call_entry F.slot_enumerate_next hT F.entry_enumerate_next ?_ (F.args_enumerate_next_1 _))))
  show wpAny _ _ (field (.ref e) 2 >>= _) _ _ _
  refine wpAny_bind (wpAny_field he rfl (x := .ref it) rfl ?_)
  refine wpAny_bind (nextOf_tuple_end hh hit hl hx fun h' x he' hx' => ?_)
  obtain ⟨o, ho, hc⟩ := hx'
  refine wpAny_bind (wpAny_isInstance (T := "StopIteration") (b := true) ⟨o, ho, hc⟩ isSubtype_stop ?_)
  exact wpAny_pure (hQ _ he')
def IteT (K : PySem.W.Frag) (a : Addr) : It :=
  ⟨fun i H => ∃ (xs : List V) (x : V), SqT K H a xs ∧ xs[i]? = some x, fun i H v H' => ∃ T x, v = .ref T ∧ H T = none ∧ H' = upd H T (.tup [.int (i : Nat), x]) ∧ ∀ xs, SqT K H a xs → xs[i]? = some x, fun i H => ∃ xs : List V, SqT K H a xs ∧ xs.length ≤ i⟩
theorem turn_enumT {P : Program} {w : World} {K : PySem.W.Frag} {elts : List Expr} {kk : Nat} {tpos : Pos} (a e it : Addr) :
    Turn P w K (.Tuple elts kk tpos) (IteT K a) [e, it] e (fun i h => (∃ old, IsEnum h e it ((i : Nat) : Int) old) ∧ h.IsTupleIter it a i ∧ e ≠ it ∧ e ≠ a ∧ a ≠ it) where
  mem := by simp
  obj := fun i h st b hb => by
    obtain ⟨⟨old, he⟩, ⟨o, ho, hc, hd⟩, _⟩ := st
    have e' : b = e ∨ b = it := by simpa using hb
    rcases e' with z | z
    · rw [z]; exact ⟨_, he, fun v q => nomatch q⟩
    · rw [z]; exact ⟨o, ho, fun v q => by rw [hd] at q; cases q⟩
  keep := fun i h h' st k => let ⟨⟨old, he⟩, hi, hne⟩ := st; ⟨⟨old, k e (by simp) _ he⟩, hi.at fun o q => k it (by simp) o q, hne⟩
  item := by
    intro X hP hw hK hc i pins s σ H E I hf st hg
    subst hP hw hK
    obtain ⟨⟨old, he⟩, hit, hne, hea, hai⟩ := st
    obtain ⟨xs, x, hq, hx⟩ := hg
    obtain ⟨its, rv, p, hz⟩ := I.tuple hq
    obtain ⟨u, hu, ru⟩ := rv.get hx
    have hel : e < s.heap.objs.size := Heap.lt_size he
    have hil : it < s.heap.objs.size := by obtain ⟨_, q, _⟩ := hit; exact Heap.lt_size q
    have hlt : i < its.toArray.size := by
      have := (List.getElem?_eq_some_iff.mp hu).1; simpa using this
    refine wpAny_pyNext_enum_itemD (Draws.tuple (A := X.A.in1) (I.ok.hd hc) it a hai its.toArray) he ⟨hit, p⟩ hlt hne (by simp [hne, hea]) fun y h' tk hy ho hit' hT hsz hk => ?_
    have hyu : y = u := by
      have h1 : its.toArray[i]? = some u := by simpa using hu
      rw [h1] at hy; exact (Option.some.inj hy).symm
    subst hyu
    refine ⟨_, rfl, wpAny_letOwnedTupleGo_enum (s := { s with heap := h', toks := tk + 1 }) ho fun h'' he' sb => ?_⟩
    have hT2 : h''.get? s.heap.objs.size = some { cls := .type "tuple", data := .seq #[.int i tk, y] } := (sb.2 _ (Nat.ne_of_gt hel)).trans hT
    have new : ObjOk X.prog X.w (upd H s.heap.objs.size (.tup [.int (i : Nat), x])) h'' s.heap.objs.size (.tup [.int (i : Nat), x]) :=
      ⟨by show 2 ≤ sizeLine; decide, [.int i tk, y], .cons ⟨_, rfl⟩ (.cons ru .nil), ⟨_, hT2, rfl, _, rfl⟩⟩
    have I1 : Inv X pins σ (upd H s.heap.objs.size (.tup [.int (i : Nat), x])) { s with heap := h'', toks := tk + 1 } :=
      I.turnedNew (ch := [e, it]) (fun b ob hb q => (sb.2 b (fun z => hb (by simp [z]))).trans (hk b ob (fun z => hb (by simp [z])) (fun z => hb (by simp [z])) q)) hf (Nat.le_refl _) new
    refine ⟨.ref s.heap.objs.size, _, I1, rfl, ⟨_, x, rfl, I.hok.fresh (Nat.le_refl _), rfl, fun ys hy => by rw [I.tuple_inj hy hq]; exact hx⟩, ⟨⟨y, ?_⟩, hit'.1.at fun o q => (sb.2 it (Ne.symm hne)).trans q, hne, hea, hai⟩, fun b hb => ?_⟩
    · have e1 : ((i + 1 : Nat) : Int) = (i : Int) + 1 := by omega
      rw [e1]; exact he'
    · have hb' : b < s.heap.objs.size := by
        have e' : b = e ∨ b = it := by simpa using hb
        rcases e' with z | z
        · rw [z]; exact hel
        · rw [z]; exact hil
      rw [upd_ne (Nat.ne_of_lt hb')]
      exact (hf b hb).1
  done := by
    intro X hP hw hK hc i pins s σ H E I hf st hg
    subst hP hw hK
    obtain ⟨⟨old, he⟩, hit, hne, hea, hai⟩ := st
    obtain ⟨xs, hq, hx⟩ := hg
    obtain ⟨its, rv, p, hz⟩ := I.tuple hq
    obtain ⟨f0, f1, f2, f3, f4, f5⟩ := hf it (by simp)
    have hl := rv.length
    exact pyNext_enumT_end (I.ok.hd hc) he hit p (by simp; omega) fun h' eb => ⟨rfl, I.turned (t' := s.toks) (fun b o hb q => eb b o hb q) f0 f1 f3 f4 f5⟩
  self := fun A i s Q E st h => let ⟨⟨_, he⟩, _⟩ := st; wpAny_pyIter_enum he h
def iEnumT (K : PySem.W.Frag) (ta : TA) : TI := fun σ H R => ta σ H fun vs H1 => ∃ a xs, vs = [.ref a] ∧ SqT K H1 a xs ∧ R (IteT K a) H1
theorem pi_enumT {X : L2.Cx} {e : Expr} {ta : TA} {p pos tpos : Pos} {elts : List Expr} {kk : Nat} (hg : Gl X "enumerate") (hm : X.mg "enumerate" = none) (ha : PA X [e] ta) (hs : starEach [e] X.env = [(false, eval e X.env)] := by rfl) :
    PI X (.Tuple elts kk tpos) (.Call (.Name "enumerate" p) [e] [] pos) (iEnumT X.K ta) := by
  refine ⟨fun pins s σ H R I h => ?_⟩
  refine Call_ (ld_blt I hg hm boot_enumerate (PyProof.Rows.callWith_type1 (thn (ha.run pos pins s σ H _ I h) fun us s1 ⟨vs, H1, I1, r1, q1⟩ => ?_) hs rfl))
  obtain ⟨a, xs, ex, hq, q⟩ := q1
  subst ex
  cases r1 with
  | cons r rr =>
    cases rr
    cases r
    obtain ⟨its, rv, p', hz⟩ := I1.tuple hq
    have hal : a < s1.heap.objs.size := by obtain ⟨_, z, _⟩ := id p'; exact Heap.lt_size z
    refine call_enumerate_tuple p' fun h' he hit hsz hk => wpAny_pyIter_enum he ?_
    have I2 : Inv X pins σ H1 { s1 with heap := h' } := I1.kept (t' := s1.toks) hk
    refine ⟨s1.heap.objs.size + 1, [s1.heap.objs.size + 1, s1.heap.objs.size], _, _, H1, rfl, I2, turn_enumT a (s1.heap.objs.size + 1) s1.heap.objs.size, ⟨⟨.none, he⟩, hit, Nat.succ_ne_self _, Nat.ne_of_gt (Nat.lt_succ_of_lt hal), Nat.ne_of_lt hal⟩, fun b hb => ?_, q⟩
    have e' : b = s1.heap.objs.size + 1 ∨ b = s1.heap.objs.size := by simpa using hb
    have hle : s1.heap.objs.size ≤ b := by
      rcases e' with z | z
      · rw [z]; exact Nat.le_add_right _ _
      · rw [z]; exact Nat.le_refl _
    exact I1.fpOk hle (I1.hok.fresh hle)
theorem walk_enumT {K : PySem.W.Frag} {R : Hp} {p : Addr} {vs : List V} {xs : List PyData} (h : SqT K R p vs) (r : RpA K R vs xs) : Walk K (IteT K p) R (enumD 0 xs) where
  stop := fun i H le hi => ⟨vs, le_t le h, by rw [r.length]; rw [enumD_len] at hi; exact hi⟩
  go := fun i H x le hx => by
    obtain ⟨x1, e1, e3⟩ := enumD_get hx
    obtain ⟨v, f1, rv⟩ := r.get e1
    refine ⟨⟨vs, v, le_t le h, f1⟩, fun w H' hy => .inr ?_⟩
    obtain ⟨t, x2, g1, g2, g3, g4⟩ := hy
    have h1 := g4 vs (le_t le h)
    rw [f1] at h1
    cases h1
    rw [Nat.zero_add] at e3
    exact ⟨t, _, [.int (i : Nat), x1], g1, g2, g3, e3, .cons (.int _) (.cons rv .nil)⟩
section
variable {X : Cx} {T : Option Addr} {S : Sta} {a : Expr} {elts : List Expr} {kk : Nat} {tpos p pos : Pos}
theorem eip_enumT {xs : List PyData} (h : EvP X T a S (.tuple xs)) (hm : X.mg "enumerate" = none) (hg : Gl X "enumerate" := by rfl)
    (hs : starEach [a] X.env = [(false, eval a X.env)] := by rfl) :
    EvIP X T (.Tuple elts kk tpos) (.Call (.Name "enumerate" p) [a] [] pos) S (enumD 0 xs) :=
  ⟨_, pi_enumT hg hm (pa_cons pe_wp pa_nil hs) hs, fun R σ H I Q q => by
    refine h R σ H I _ fun R1 v H1 d b ⟨e1, e2⟩ I1 n1 r1 => ?_
    subst e1 e2
    cases r1 with
    | @tup p1 vs _ hq hr => exact ⟨p1, vs, rfl, le_t I1.le hq, q _ R1 H1 _ _ ⟨rfl, rfl⟩ I1 n1 (walk_enumT hq hr)⟩⟩
end
end PL
set_option maxHeartbeats 4000000
/-! further rules -/
namespace PL
open PySem PySem.Spec PyProof.Rows L2 RZ
section
variable {X : Cx} {T : Option Addr}
theorem opd_isB {p q : Bool} : OpD X T (compareOp .Is) (.bool p) (.bool q) (.bool (decide (p = q))) := fun S R σ H a b Q I ra rb q' => by
  cases ra; cases rb
  exact ⟨_, op_isBl, _, _, rfl, rfl, q' R _ H I Nx.refl (.bl _)⟩
theorem opd_notB {p q : Bool} : OpD X T (compareOp .IsNot) (.bool p) (.bool q) (.bool (!decide (p = q))) := fun S R σ H a b Q I ra rb q' => by
  cases ra; cases rb
  exact ⟨_, op_notBl, _, _, rfl, rfl, q' R _ H I Nx.refl (.bl _)⟩
end
end PL
set_option maxHeartbeats 1000000
namespace PL
open PySem PySem.Spec PyProof.Rows L2 RZ
/-- a def's worth: arguments that a tells, where pre holds, give out -/
def spE {α : Type} (enc : α → List PyData) (pre : α → Prop) (out : α → PyData) : SpD := fun ds κ => ∃ a, ds = enc a ∧ pre a ∧ κ (out a)
theorem mono_E {α : Type} {enc : α → List PyData} {pre : α → Prop} {out : α → PyData} : Mono (spE enc pre out) := fun ds κ κ' h ⟨a, e, p, k⟩ => ⟨a, e, p, h _ k⟩
theorem len_E {α : Type} {enc : α → List PyData} {pre : α → Prop} {out : α → PyData} {n : Nat} (h : ∀ a, (enc a).length = n) : ∀ ds κ, spE enc pre out ds κ → ds.length = n := fun ds κ ⟨a, e, _, _⟩ => by rw [e]; exact h a
abbrev e1 : Nat → List PyData := fun a => [nD a]
abbrev e2 : Nat × Nat → List PyData := fun a => [nD a.1, nD a.2]
abbrev e3 : Nat × Nat × Nat → List PyData := fun a => [nD a.1, nD a.2.1, nD a.2.2]
abbrev e4 : Nat × Nat × Nat × Nat → List PyData := fun a => [nD a.1, nD a.2.1, nD a.2.2.1, nD a.2.2.2]
abbrev e5 : Nat × Nat × Nat × Nat × Nat → List PyData := fun a => [nD a.1, nD a.2.1, nD a.2.2.1, nD a.2.2.2.1, nD a.2.2.2.2]
abbrev eT (ns : List Nat) : PyData := .tuple (ns.map nD)
abbrev eT1 : List Nat → List PyData := fun a => [eT a]
abbrev eT2 : List Nat × Nat → List PyData := fun a => [eT a.1, nD a.2]

/-! ### figures -/
def figs (p n : Nat) : List Nat := if h : n = 0 ∨ p < 2 then [] else n % p :: figs p (n / p)
termination_by n
decreasing_by exact Nat.div_lt_self (by omega) (by omega)
theorem figs_zero (p : Nat) : figs p 0 = [] := by rw [figs]; simp
theorem figs_pos {p n : Nat} (hp : 2 ≤ p) (hn : 0 < n) : figs p n = n % p :: figs p (n / p) := by
  rw [figs, dif_neg (by omega)]
theorem figs_len {p : Nat} (hp : 2 ≤ p) : ∀ (k n : Nat), n < 2 ^ k → (figs p n).length ≤ k
  | 0, n, h => by
    have : n = 0 := by simpa using h
    subst this; rw [figs_zero]; simp
  | k + 1, n, h => by
    by_cases h0 : n = 0
    · subst h0; rw [figs_zero]; simp
    · rw [figs_pos hp (by omega)]
      have h1 : n / p < 2 ^ k := by
        apply Nat.div_lt_of_lt_mul
        have : 2 ^ (k + 1) = 2 * 2 ^ k := by rw [Nat.pow_succ, Nat.mul_comm]
        rw [this] at h
        exact Nat.lt_of_lt_of_le h (Nat.mul_le_mul_right _ hp)
      have := figs_len hp k (n / p) h1
      simp; exact this
theorem figs_lt {p : Nat} (hp : 2 ≤ p) : ∀ (k n : Nat), n ≤ k → ∀ d ∈ figs p n, d < p
  | 0, n, h, d, hd => by
    have : n = 0 := by omega
    subst this; rw [figs_zero] at hd; cases hd
  | k + 1, n, h, d, hd => by
    by_cases h0 : n = 0
    · subst h0; rw [figs_zero] at hd; cases hd
    · rw [figs_pos hp (by omega)] at hd
      rcases List.mem_cons.mp hd with e | e
      · rw [e]; exact Nat.mod_lt _ (by omega)
      · have h2 : n / p < n := Nat.div_lt_self (by omega) (by omega)
        exact figs_lt hp k (n / p) (by omega) d e
/-- the number of figures, the lowest first -/
def numOf (p : Nat) : List Nat → Nat
  | [] => 0
  | d :: r => numOf p r * p + d
theorem numOf_figs {p : Nat} (hp : 2 ≤ p) : ∀ (k n : Nat), n ≤ k → numOf p (figs p n) = n
  | 0, n, h => by
    have : n = 0 := by omega
    subst this; rw [figs_zero]; rfl
  | k + 1, n, h => by
    by_cases h0 : n = 0
    · subst h0; rw [figs_zero]; rfl
    · rw [figs_pos hp (by omega)]
      have h2 : n / p < n := Nat.div_lt_self (by omega) (by omega)
      show numOf p (figs p (n / p)) * p + n % p = n
      rw [numOf_figs hp k (n / p) (by omega), Nat.mul_comm]
      exact Nat.div_add_mod n p
theorem numOf_append (p : Nat) : ∀ (a b : List Nat), numOf p (a ++ b) = numOf p a + p ^ a.length * numOf p b
  | [], b => by simp [numOf]
  | d :: r, b => by
    show numOf p (r ++ b) * p + d = (numOf p r * p + d) + p ^ (r.length + 1) * numOf p b
    rw [numOf_append p r b, Nat.add_mul, Nat.pow_succ]
    have : p ^ r.length * numOf p b * p = p ^ r.length * p * numOf p b := by rw [Nat.mul_assoc, Nat.mul_comm (numOf p b) p, ← Nat.mul_assoc]
    omega
theorem numOf_zeros (p k : Nat) : numOf p (List.replicate k 0) = 0 := by
  induction k with
  | zero => rfl
  | succ k ih => rw [List.replicate_succ]; show numOf p (List.replicate k 0) * p + 0 = 0; rw [ih]; simp
theorem numOf_lt {p : Nat} : ∀ {l : List Nat}, (∀ d ∈ l, d < p) → numOf p l < p ^ l.length
  | [], _ => by simp [numOf]
  | d :: r, h => by
    have h1 := numOf_lt fun x hx => h x (List.mem_cons_of_mem _ hx)
    have h2 := h d List.mem_cons_self
    show numOf p r * p + d < p ^ (r.length + 1)
    rw [Nat.pow_succ]
    have : (numOf p r + 1) * p ≤ p ^ r.length * p := Nat.mul_le_mul_right _ h1
    rw [Nat.add_mul] at this
    omega
abbrev PreN (a : Nat × Nat) : Prop := a.1 < 2 ^ 200 ∧ 2 ≤ a.2 ∧ a.2 ≤ 7
def sp_figures : SpD := spE e2 PreN fun a => eT (figs a.2 a.1)
def sp_number_of : SpD := spE eT2 (fun a => a.2 ≤ 7) fun a => nD (numOf a.2 a.1)
def sp_raised : SpD := spE e2 (fun a => a.1 < 2 ^ 64 ∧ a.2 < 2 ^ 60) fun a => nD (a.1 ^ a.2)
def sp_figure_at : SpD := spE e3 (fun a => 2 ≤ a.2.1 ∧ a.2.1 ≤ 7 ∧ a.2.2 ≤ 60) fun a => nD (a.1 / a.2.1 ^ a.2.2 % a.2.1)
def sp_weight : SpD := spE e2 PreN fun a => nD (figs a.2 a.1).sum
theorem pow7_lt {p k : Nat} (hp : p ≤ 7) (hk : k ≤ 60) : p ^ k < 2 ^ 200 := by
  have h1 : p ^ k ≤ 7 ^ k := Nat.pow_le_pow_left hp k
  have h2 : 7 ^ k ≤ 7 ^ 60 := Nat.pow_le_pow_right (by omega) hk
  have h3 : (7 : Nat) ^ 60 < 2 ^ 200 := by decide
  omega

theorem figs_get {p : Nat} (hp : 2 ≤ p) : ∀ (i n : Nat), (figs p n).getD i 0 = n / p ^ i % p
  | 0, n => by
    by_cases h0 : n = 0
    · subst h0; rw [figs_zero]; simp
    · rw [figs_pos hp (by omega)]; simp
  | i + 1, n => by
    by_cases h0 : n = 0
    · subst h0; rw [figs_zero]; simp
    · rw [figs_pos hp (by omega), List.getD_cons_succ, figs_get hp i (n / p), Nat.div_div_eq_div_mul, Nat.pow_succ, Nat.mul_comm (p ^ i) p]
theorem getD_pad {l : List Nat} {i : Nat} : (l ++ [0, 0]).getD i 0 = l.getD i 0 := by
  rw [List.getD_eq_getElem?_getD, List.getD_eq_getElem?_getD]
  by_cases h : i < l.length
  · rw [List.getElem?_append_left h]
  · rw [List.getElem?_append_right (by omega), List.getElem?_eq_none (by omega : l.length ≤ i)]
    match i - l.length with
    | 0 => rfl
    | 1 => rfl
    | n + 2 => rfl
theorem numOf_figs' {p : Nat} (hp : 2 ≤ p) (n : Nat) : numOf p (figs p n) = n := numOf_figs hp n n (Nat.le_refl _)
/-- the primes of the document -/
def Pr (p : Nat) : Prop := p = 2 ∨ p = 3 ∨ p = 5 ∨ p = 7
end PL
set_option maxHeartbeats 1000000
namespace PL
open PySem PySem.Spec PyProof.Rows L2 RZ
/-! ### carries, and the powers in products -/
/-- whether a carry goes behind so many figures -/
def cyB (p a b i : Nat) : Bool := decide (p ^ i ≤ a % p ^ i + b % p ^ i)
/-- the places behind which a carry goes, below K -/
def cyR (p K a b : Nat) : List Nat := (List.range K).filter fun i => cyB p a b (i + 1)
def cyL (p a b : Nat) : List Nat := cyR p (a + b) a b
/-- numbers parted by powers of p, together -/
def legR (p K n : Nat) : Nat := ((List.range K).map fun i => n / p ^ (i + 1)).sum
def leg (p n : Nat) : Nat := legR p n n
theorem cyB_comm (p a b i : Nat) : cyB p a b i = cyB p b a i := by unfold cyB; rw [Nat.add_comm]
theorem cyL_comm (p a b : Nat) : cyL p a b = cyL p b a := by
  unfold cyL cyR; rw [Nat.add_comm]; simp only [cyB_comm p a b]
theorem cyR_succ (p K a b : Nat) : cyR p (K + 1) a b = cyR p K a b ++ (if cyB p a b (K + 1) then [K] else []) := by
  unfold cyR; rw [List.range_succ, List.filter_append]; congr 1
  cases h : cyB p a b (K + 1) <;> simp [h]
theorem lt_pow_self' {p : Nat} (hp : 2 ≤ p) : ∀ n : Nat, n < p ^ n
  | 0 => by simp
  | n + 1 => by
    have := lt_pow_self' hp n
    rw [Nat.pow_succ]
    have h2 : p ^ n * 2 ≤ p ^ n * p := Nat.mul_le_mul_left _ hp
    omega
theorem cyB_big {p a b i : Nat} (h : a + b < p ^ i) : cyB p a b i = false := by
  unfold cyB
  rw [Nat.mod_eq_of_lt (by omega), Nat.mod_eq_of_lt (by omega)]
  simp; exact h
theorem pow_le_of_lt {p K i : Nat} (hp : 2 ≤ p) (h : K ≤ i) : p ^ K ≤ p ^ i := Nat.pow_le_pow_right (by omega) h
theorem cyR_stab {p K a b : Nat} (hp : 2 ≤ p) (h : a + b < p ^ K) : ∀ j, cyR p (K + j) a b = cyR p K a b
  | 0 => rfl
  | j + 1 => by
    rw [← Nat.add_assoc, cyR_succ, cyR_stab hp h j, cyB_big (Nat.lt_of_lt_of_le h (pow_le_of_lt hp (by omega)))]; simp
theorem cyR_eq {p K a b : Nat} (hp : 2 ≤ p) (h : a + b < p ^ K) : cyR p K a b = cyL p a b := by
  have h2 := lt_pow_self' hp (a + b)
  unfold cyL
  rcases Nat.le_total K (a + b) with g | g
  · obtain ⟨j, e⟩ := Nat.exists_eq_add_of_le g
    rw [e, cyR_stab hp h]
  · obtain ⟨j, e⟩ := Nat.exists_eq_add_of_le g
    rw [e, cyR_stab hp h2]
theorem mod_step (a q p : Nat) : a % (q * p) = a % q + q * (a / q % p) := Nat.mod_mul
/-- one figure more -/
theorem cyB_step {p : Nat} (hp : 2 ≤ p) (a b i : Nat) : cyB p a b (i + 1) = decide (p ≤ a / p ^ i % p + b / p ^ i % p + (if cyB p a b i then 1 else 0)) := by
  unfold cyB
  have hq : 0 < p ^ i := Nat.pow_pos (by omega)
  rw [Nat.pow_succ, mod_step, mod_step]
  generalize p ^ i = q at hq
  have hx : a % q < q := Nat.mod_lt _ hq
  have hy : b % q < q := Nat.mod_lt _ hq
  generalize a % q = x at hx
  generalize b % q = y at hy
  generalize a / q % p = u
  generalize b / q % p = v
  apply decide_eq_decide.mpr
  by_cases h : q ≤ x + y
  · simp only [h, decide_true, if_true]
    constructor
    · intro g
      apply Nat.le_of_not_lt; intro k
      have : q * (u + v + 1 + 1) ≤ q * p := Nat.mul_le_mul_left _ k
      simp only [Nat.mul_add, Nat.mul_one] at this
      omega
    · intro g
      have : q * p ≤ q * (u + v + 1) := Nat.mul_le_mul_left _ g
      simp only [Nat.mul_add, Nat.mul_one] at this
      omega
  · simp only [h, decide_false]
    constructor
    · intro g
      apply Nat.le_of_not_lt; intro k
      have k : u + v + 1 ≤ p := by simp at k; omega
      have : q * (u + v + 1) ≤ q * p := Nat.mul_le_mul_left _ k
      simp only [Nat.mul_add, Nat.mul_one] at this
      omega
    · intro g
      have g : p ≤ u + v := by simpa using g
      have : q * p ≤ q * (u + v) := Nat.mul_le_mul_left _ g
      simp only [Nat.mul_add] at this
      omega
theorem cyB_zero (p a b : Nat) : cyB p a b 0 = false := by unfold cyB; simp [Nat.mod_one]
theorem add_div' {q : Nat} (hq : 0 < q) (a b : Nat) : (a + b) / q = a / q + b / q + (if q ≤ a % q + b % q then 1 else 0) := by
  have ha := Nat.div_add_mod a q
  have hb := Nat.div_add_mod b q
  have hx : a % q < q := Nat.mod_lt _ hq
  have hy : b % q < q := Nat.mod_lt _ hq
  generalize a % q = x at *
  generalize b % q = y at *
  generalize a / q = u at *
  generalize b / q = v at *
  by_cases h : q ≤ x + y
  · rw [if_pos h]
    rw [show a + b = (x + y - q) + q * (u + v + 1) by simp only [Nat.mul_add, Nat.mul_one]; omega, Nat.add_mul_div_left _ _ hq, Nat.div_eq_of_lt (by omega)]; omega
  · rw [if_neg h]
    rw [show a + b = (x + y) + q * (u + v) by simp only [Nat.mul_add]; omega, Nat.add_mul_div_left _ _ hq, Nat.div_eq_of_lt (by omega)]; omega
theorem legR_zero (p n : Nat) : legR p 0 n = 0 := rfl
theorem legR_succ (p K n : Nat) : legR p (K + 1) n = legR p K n + n / p ^ (K + 1) := by
  unfold legR; rw [List.range_succ, List.map_append, List.sum_append]; simp
theorem legR_front (p n : Nat) : ∀ K, legR p (K + 1) n = n / p + legR p K (n / p)
  | 0 => by rw [legR_succ, legR_zero, legR_zero]; simp
  | K + 1 => by
    rw [legR_succ, legR_front p n K, legR_succ p K (n / p), Nat.div_div_eq_div_mul, Nat.pow_succ p (K + 1), Nat.mul_comm (p ^ (K + 1)) p]; omega
theorem legR_stab {p K n : Nat} (hp : 2 ≤ p) (h : n < p ^ K) : ∀ j, legR p (K + j) n = legR p K n
  | 0 => rfl
  | j + 1 => by
    rw [← Nat.add_assoc, legR_succ, legR_stab hp h j, Nat.div_eq_of_lt (Nat.lt_of_lt_of_le h (pow_le_of_lt hp (by omega)))]; rfl
theorem legR_eq {p K n : Nat} (hp : 2 ≤ p) (h : n < p ^ K) : legR p K n = leg p n := by
  have h2 := lt_pow_self' hp n
  unfold leg
  rcases Nat.le_total K n with g | g
  · obtain ⟨j, e⟩ := Nat.exists_eq_add_of_le g
    rw [show legR p n n = legR p (K + j) n by rw [← e], legR_stab hp h]
  · obtain ⟨j, e⟩ := Nat.exists_eq_add_of_le g
    rw [e, legR_stab hp h2]
theorem leg_front {p n : Nat} (hp : 2 ≤ p) : leg p n = n / p + leg p (n / p) := by
  have h2 := lt_pow_self' hp n
  have h3 : n < p ^ (n + 1) := Nat.lt_of_lt_of_le h2 (pow_le_of_lt hp (by omega))
  rw [← legR_eq hp h3, legR_front, legR_eq hp (Nat.lt_of_le_of_lt (Nat.div_le_self _ _) h2)]
theorem leg_zero (p : Nat) : leg p 0 = 0 := rfl
/-- Legendre by carries -/
theorem legR_carries {p : Nat} (hp : 2 ≤ p) (a b : Nat) : ∀ K, legR p K (a + b) = legR p K a + legR p K b + (cyR p K a b).length
  | 0 => rfl
  | K + 1 => by
    rw [legR_succ, legR_succ, legR_succ, legR_carries hp a b K, cyR_succ, add_div' (Nat.pow_pos (by omega)), List.length_append]
    unfold cyB
    by_cases h : p ^ (K + 1) ≤ a % p ^ (K + 1) + b % p ^ (K + 1)
    · simp only [h, decide_true, if_true, List.length_singleton]; omega
    · simp only [h, decide_false, if_false, List.length_nil, Bool.false_eq_true]; omega
theorem leg_carries {p : Nat} (hp : 2 ≤ p) (a b : Nat) : leg p (a + b) = leg p a + leg p b + (cyL p a b).length := by
  have h2 := lt_pow_self' hp (a + b)
  have := legR_carries hp a b (a + b)
  rw [legR_eq hp h2, legR_eq hp (by omega : a < _), legR_eq hp (by omega : b < _)] at this
  exact this
/-- a number is its figures together, and the prime less one for each time -/
theorem figs_leg {p : Nat} (hp : 2 ≤ p) : ∀ (k n : Nat), n ≤ k → n = (figs p n).sum + (p - 1) * leg p n
  | 0, n, h => by
    have : n = 0 := by omega
    subst this; rw [figs_zero, leg_zero]; rfl
  | k + 1, n, h => by
    by_cases h0 : n = 0
    · subst h0; rw [figs_zero, leg_zero]; rfl
    · have h2 : n / p < n := Nat.div_lt_self (by omega) (by omega)
      have ih := figs_leg hp k (n / p) (by omega)
      rw [figs_pos hp (by omega), leg_front hp, List.sum_cons, Nat.mul_add]
      have h3 := Nat.div_add_mod n p
      have h4 : (p - 1) * (n / p) + n / p = p * (n / p) := by
        obtain ⟨q, rfl⟩ : ∃ q, p = q + 1 := ⟨p - 1, by omega⟩
        rw [Nat.add_sub_cancel, Nat.add_mul, Nat.one_mul]
      omega
theorem figs_leg' {p : Nat} (hp : 2 ≤ p) (n : Nat) : n = (figs p n).sum + (p - 1) * leg p n := figs_leg hp n n (Nat.le_refl _)
/-- all figures of two numbers and of both together -/
theorem figs_carries {p : Nat} (hp : 2 ≤ p) (a b : Nat) : (figs p a).sum + (figs p b).sum = (figs p (a + b)).sum + (cyL p a b).length * (p - 1) := by
  have h1 := figs_leg' hp a
  have h2 := figs_leg' hp b
  have h3 := figs_leg' hp (a + b)
  rw [leg_carries hp a b, Nat.mul_add, Nat.mul_add, Nat.mul_comm (p - 1) (cyL p a b).length] at h3
  omega
theorem cyL_mem {p a b i : Nat} (hp : 2 ≤ p) : i ∈ cyL p a b ↔ cyB p a b (i + 1) = true := by
  unfold cyL cyR
  rw [List.mem_filter, List.mem_range]
  constructor
  · exact fun h => h.2
  · intro h
    refine ⟨?_, h⟩
    apply Nat.lt_of_not_le; intro g
    rw [cyB_big (Nat.lt_of_lt_of_le (lt_pow_self' hp (a + b)) (pow_le_of_lt hp (by omega)))] at h
    cases h
theorem cyR_len (p K a b : Nat) : (cyR p K a b).length ≤ K := by
  unfold cyR; refine Nat.le_trans (List.length_filter_le _ _) ?_; rw [List.length_range]; exact Nat.le_refl _
theorem cyL_len {p a b K : Nat} (hp : 2 ≤ p) (h : a + b < p ^ K) : (cyL p a b).length ≤ K := by
  rw [← cyR_eq hp h]; exact cyR_len _ _ _ _
abbrev Pre2 (a : Nat × Nat × Nat) : Prop := a.1 < 2 ^ 150 ∧ a.2.1 < 2 ^ 150 ∧ 2 ≤ a.2.2 ∧ a.2.2 ≤ 7
def sp_carry_places : SpD := spE e3 Pre2 fun a => eT (cyL a.2.2 a.1 a.2.1)
def sp_carries : SpD := spE e3 Pre2 fun a => nD (cyL a.2.2 a.1 a.2.1).length
theorem pow2_le_pow {p K : Nat} (hp : 2 ≤ p) : 2 ^ K ≤ p ^ K := Nat.pow_le_pow_left hp K

theorem getD_padR {l : List Nat} {i k : Nat} : (l ++ List.replicate k 0).getD i 0 = l.getD i 0 := by
  rw [List.getD_eq_getElem?_getD, List.getD_eq_getElem?_getD]
  by_cases h : i < l.length
  · rw [List.getElem?_append_left h]
  · rw [List.getElem?_append_right (by omega), List.getElem?_eq_none (by omega : l.length ≤ i), List.getElem?_replicate]
    split <;> rfl
theorem figs_lt_pow {p : Nat} (hp : 2 ≤ p) (n : Nat) : n < p ^ (figs p n).length := by
  have h := numOf_lt (p := p) (figs_lt hp n n (Nat.le_refl _))
  rwa [numOf_figs' hp] at h
theorem add_lt_pow {p a b : Nat} (hp : 2 ≤ p) : a + b < p ^ (max (figs p a).length (figs p b).length + 1) := by
  have h1 := figs_lt_pow hp a
  have h2 := figs_lt_pow hp b
  have h3 : p ^ (figs p a).length ≤ p ^ (max (figs p a).length (figs p b).length) := Nat.pow_le_pow_right (by omega) (Nat.le_max_left _ _)
  have h4 : p ^ (figs p b).length ≤ p ^ (max (figs p a).length (figs p b).length) := Nat.pow_le_pow_right (by omega) (Nat.le_max_right _ _)
  rw [Nat.pow_succ]
  have : p ^ (max (figs p a).length (figs p b).length) * 2 ≤ p ^ (max (figs p a).length (figs p b).length) * p := Nat.mul_le_mul_left _ hp
  omega
theorem all_c {n : Nat} {d : PyData} {ds : List PyData} (h : deepD n d = true) (h2 : ds.all (deepD n) = true) : (d :: ds).all (deepD n) = true := by
  rw [List.all_cons, h, h2]; rfl
theorem all_n {n : Nat} : ([] : List PyData).all (deepD n) = true := rfl
theorem deep_t {n : Nat} {ds : List PyData} (h : ds.all (deepD n) = true) (hl : ds.length ≤ 100000) : deepD (n + 1) (.tuple ds) = true := deep_T (List.all_eq_true.mp h) hl
theorem deep_z {n : Nat} {i : Int} : deepD n (.int i) = true := by cases n <;> rfl
theorem deep_b {n : Nat} {i : Bool} : deepD n (.bool i) = true := by cases n <;> rfl
theorem deep_0 {n : Nat} : deepD n .none = true := by cases n <;> rfl
theorem deep_s {n : Nat} {s : Str} : deepD n (.str s) = true := by cases n <;> rfl
end PL
set_option maxHeartbeats 1000000
namespace PL
open PySem PySem.Spec PyProof.Rows L2 RZ
/-! ### choices -/
def C : Nat → Nat → Nat
  | _, 0 => 1
  | 0, _ + 1 => 0
  | n + 1, k + 1 => C n k + C n (k + 1)
theorem C_zero (n : Nat) : C n 0 = 1 := by cases n <;> rfl
theorem C_pascal (n k : Nat) : C (n + 1) (k + 1) = C n k + C n (k + 1) := rfl
theorem C_0s (k : Nat) : C 0 (k + 1) = 0 := rfl
theorem C_gt : ∀ {n k : Nat}, n < k → C n k = 0
  | 0, k + 1, _ => rfl
  | n + 1, k + 1, h => by rw [C_pascal, C_gt (by omega), C_gt (by omega)]
theorem C_self : ∀ n : Nat, C n n = 1
  | 0 => rfl
  | n + 1 => by rw [C_pascal, C_self n, C_gt (by omega)]
theorem C_absorb : ∀ (n k : Nat), (k + 1) * C (n + 1) (k + 1) = (n + 1) * C n k
  | 0, 0 => rfl
  | 0, k + 1 => by rw [C_gt (by omega), C_gt (by omega)]; simp
  | n + 1, 0 => by
    have := C_absorb n 0
    rw [C_pascal (n + 1) 0, C_zero]
    rw [C_zero] at this
    have e : C (n + 1) (0 + 1) = n + 1 := by omega
    rw [e]; omega
  | n + 1, k + 1 => by
    have h1 := C_absorb n k
    have h2 := C_absorb n (k + 1)
    rw [C_pascal (n + 1) (k + 1), Nat.mul_add, h2]
    have h3 : (k + 1 + 1) * C (n + 1) (k + 1) = (n + 1) * C n k + C (n + 1) (k + 1) := by rw [Nat.add_mul, h1]; omega
    rw [h3]
    have h4 : (n + 1 + 1) * C (n + 1) (k + 1) = (n + 1) * C n k + (n + 1) * C n (k + 1) + C (n + 1) (k + 1) := by
      rw [Nat.add_mul (n + 1) 1, C_pascal n k, Nat.mul_add]; omega
    rw [h4]; omega
theorem C_step {n k : Nat} (h : k ≤ n) : (k + 1) * C n (k + 1) = (n - k) * C n k := by
  have h1 := C_absorb n k
  rw [C_pascal, Nat.mul_add] at h1
  have h2 : (n + 1) * C n k = (n - k) * C n k + (k + 1) * C n k := by rw [← Nat.add_mul]; congr 1; omega
  omega
theorem C_pos : ∀ {n k : Nat}, k ≤ n → 0 < C n k
  | n, 0, _ => by rw [C_zero]; omega
  | 0, k + 1, h => by omega
  | n + 1, k + 1, h => by rw [C_pascal]; have := C_pos (n := n) (k := k) (by omega); omega
theorem C_one (n : Nat) : C n 1 = n := by
  have := C_step (n := n) (k := 0) (by omega); rw [C_zero] at this; simp at this; exact this
def fac : Nat → Nat
  | 0 => 1
  | n + 1 => (n + 1) * fac n
theorem fac_pos : ∀ n, 0 < fac n
  | 0 => by decide
  | n + 1 => Nat.mul_pos (by omega) (fac_pos n)
theorem C_fac : ∀ (a b : Nat), C (a + b) a * (fac a * fac b) = fac (a + b)
  | 0, b => by rw [C_zero]; show 1 * (1 * fac b) = _; rw [Nat.zero_add]; omega
  | a + 1, b => by
    have h1 := C_absorb (a + b) a
    have h2 := C_fac a b
    rw [show a + 1 + b = (a + b) + 1 by omega]
    show C (a + b + 1) (a + 1) * ((a + 1) * fac a * fac b) = (a + b + 1) * fac (a + b)
    calc C (a + b + 1) (a + 1) * ((a + 1) * fac a * fac b) = ((a + 1) * C (a + b + 1) (a + 1)) * (fac a * fac b) := by
          simp only [Nat.mul_assoc, Nat.mul_comm, Nat.mul_left_comm]
      _ = (a + b + 1) * (C (a + b) a * (fac a * fac b)) := by rw [h1, Nat.mul_assoc]
      _ = _ := by rw [h2]
theorem C_symm' (a b : Nat) : C (a + b) a = C (a + b) b := by
  have h1 := C_fac a b
  have h2 := C_fac b a
  rw [Nat.add_comm b a, Nat.mul_comm (fac b)] at h2
  exact Nat.eq_of_mul_eq_mul_right (Nat.mul_pos (fac_pos a) (fac_pos b)) (h1.trans h2.symm)
theorem C_symm {n k : Nat} (h : k ≤ n) : C n (n - k) = C n k := by
  have := C_symm' k (n - k)
  rw [show k + (n - k) = n by omega] at this
  exact this.symm
/-- all of a row -/
def rowC (n : Nat) : List Nat := (List.range (n + 1)).map (C n)
theorem rowC_len (n : Nat) : (rowC n).length = n + 1 := by unfold rowC; rw [List.length_map, List.length_range]
theorem sum_range_succ (f : Nat → Nat) (n : Nat) : ((List.range (n + 1)).map f).sum = ((List.range n).map f).sum + f n := by
  rw [List.range_succ, List.map_append, List.sum_append]; simp
theorem sum_range_front (f : Nat → Nat) : ∀ n : Nat, ((List.range (n + 1)).map f).sum = f 0 + ((List.range n).map fun i => f (i + 1)).sum
  | 0 => by simp
  | n + 1 => by rw [sum_range_succ, sum_range_front f n, sum_range_succ]; omega
theorem sum_range_add (f g : Nat → Nat) : ∀ n : Nat, ((List.range n).map fun i => f i + g i).sum = ((List.range n).map f).sum + ((List.range n).map g).sum
  | 0 => rfl
  | n + 1 => by rw [sum_range_succ, sum_range_succ, sum_range_succ, sum_range_add f g n]; omega
theorem sum_range_mul (c : Nat) (f : Nat → Nat) : ∀ n : Nat, ((List.range n).map fun i => c * f i).sum = c * ((List.range n).map f).sum
  | 0 => rfl
  | n + 1 => by rw [sum_range_succ, sum_range_succ, sum_range_mul c f n, Nat.mul_add]
theorem sum_range_congr {f g : Nat → Nat} {n : Nat} (h : ∀ i, i < n → f i = g i) : ((List.range n).map f).sum = ((List.range n).map g).sum := by
  congr 1; exact List.map_congr_left fun i hi => h i (List.mem_range.mp hi)
theorem C_rowsum : ∀ n : Nat, (rowC n).sum = 2 ^ n
  | 0 => rfl
  | n + 1 => by
    unfold rowC
    rw [sum_range_front, C_zero]
    have e : ((List.range (n + 1)).map fun i => C (n + 1) (i + 1)).sum = ((List.range (n + 1)).map fun i => C n i + C n (i + 1)).sum := rfl
    rw [e, sum_range_add]
    have h1 := C_rowsum n
    have h2 : ((List.range (n + 1)).map (C n)).sum = 2 ^ n := h1
    have h3 := sum_range_front (C n) n
    rw [C_zero, h2] at h3
    rw [sum_range_succ (fun i => C n (i + 1)), C_gt (by omega : n < n + 1), h2, Nat.pow_succ]
    omega
theorem C_le (n k : Nat) : C n k ≤ 2 ^ n := by
  by_cases h : k ≤ n
  · rw [← C_rowsum n]
    have hm : C n k ∈ rowC n := List.mem_map.mpr ⟨k, List.mem_range.mpr (by omega), rfl⟩
    generalize rowC n = l at hm
    induction l with
    | nil => cases hm
    | cons x r ih =>
      rw [List.sum_cons]
      rcases List.mem_cons.mp hm with e | e
      · omega
      · have := ih e; omega
  · rw [C_gt (by omega)]; exact Nat.zero_le _
/-- two heaps -/
theorem C_vander (m : Nat) : ∀ (n k : Nat), C (m + n) k = ((List.range (k + 1)).map fun i => C m i * C n (k - i)).sum
  | 0, k => by
    rw [sum_range_succ, Nat.sub_self, C_zero, Nat.mul_one, Nat.add_zero]
    have : ((List.range k).map fun i => C m i * C 0 (k - i)).sum = 0 := by
      rw [sum_range_congr (g := fun _ => 0 * 0) fun i hi => by rw [C_gt (by omega : 0 < k - i)]; simp, sum_range_mul]; simp
    omega
  | n + 1, 0 => by simp [C_zero]
  | n + 1, k + 1 => by
    rw [show m + (n + 1) = (m + n) + 1 by omega, C_pascal, C_vander m n k, C_vander m n (k + 1), sum_range_succ _ (k + 1), sum_range_succ _ (k + 1), Nat.sub_self, C_zero, C_zero, ← Nat.add_assoc, ← sum_range_add]
    congr 1
    refine sum_range_congr fun i hi => ?_
    rw [← Nat.mul_add, show k + 1 - i = (k - i) + 1 by omega, C_pascal]

/-! ### rests by a prime: Lucas -/
theorem Pr_two {p : Nat} (h : Pr p) : 2 ≤ p := by unfold Pr at h; omega
theorem Pr_seven {p : Nat} (h : Pr p) : p ≤ 7 := by unfold Pr at h; omega
theorem C_prime {p : Nat} (h : Pr p) {j : Nat} (h0 : 0 < j) (h1 : j < p) : C p j % p = 0 := by
  have e : ∀ p, p < 8 → Pr p → ∀ j, j < p → 0 < j → C p j % p = 0 := by unfold Pr; decide
  exact e p (by have := Pr_seven h; omega) h j h1 h0
theorem lucas1 {p : Nat} (hp : Pr p) : ∀ (n k : Nat), C n k % p = C (n / p) (k / p) * C (n % p) (k % p) % p
  | 0, 0 => by simp [C]
  | 0, k + 1 => by
    rw [Nat.zero_div, Nat.zero_mod, C_0s]
    have h2 := Pr_two hp
    have hk := Nat.div_add_mod (k + 1) p
    by_cases h : (k + 1) / p = 0
    · rw [h] at hk
      rw [C_gt (by omega : 0 < (k + 1) % p)]; simp
    · rw [C_gt (Nat.pos_of_ne_zero h)]; simp
  | n + 1, 0 => by simp [C_zero]
  | n + 1, k + 1 => by
    have h2 := Pr_two hp
    have i1 := lucas1 hp n k
    have i2 := lucas1 hp n (k + 1)
    rw [C_pascal, Nat.add_mod, i1, i2, ← Nat.add_mod]
    have en := Nat.div_add_mod n p
    have ek := Nat.div_add_mod k p
    have ln := Nat.mod_lt n (by omega : p > 0)
    have lk := Nat.mod_lt k (by omega : p > 0)
    have ed : ∀ m, m % p + 1 < p → (m + 1) / p = m / p ∧ (m + 1) % p = m % p + 1 := fun m g => by
      have em := Nat.div_add_mod m p
      have e : m + 1 = p * (m / p) + (m % p + 1) := by omega
      constructor
      · rw [e, Nat.mul_add_div (by omega), Nat.div_eq_of_lt g]; rfl
      · rw [e, Nat.mul_add_mod, Nat.mod_eq_of_lt g]
    have eu : ∀ m, m % p + 1 = p → (m + 1) / p = m / p + 1 ∧ (m + 1) % p = 0 := fun m g => by
      have em := Nat.div_add_mod m p
      have e : m + 1 = p * (m / p + 1) := by rw [Nat.mul_add]; omega
      constructor
      · rw [e, Nat.mul_div_cancel_left _ (by omega)]
      · rw [e, Nat.mul_mod_right]
    by_cases gn : n % p + 1 < p
    · obtain ⟨n1, n2⟩ := ed n gn
      rw [n1, n2]
      by_cases gk : k % p + 1 < p
      · obtain ⟨k1, k2⟩ := ed k gk
        rw [k1, k2, C_pascal, Nat.mul_add]
      · obtain ⟨k1, k2⟩ := eu k (by omega)
        rw [k1, k2, C_zero, C_zero, C_gt (by omega : n % p < k % p)]; simp
    · obtain ⟨n1, n2⟩ := eu n (by omega)
      rw [n1, n2]
      by_cases gk : k % p + 1 < p
      · obtain ⟨k1, k2⟩ := ed k gk
        rw [k1, k2, C_0s, ← Nat.mul_add, ← C_pascal, show n % p + 1 = p by omega, Nat.mul_mod, C_prime hp (by omega) gk]; simp
      · obtain ⟨k1, k2⟩ := eu k (by omega)
        rw [k1, k2, C_zero, C_zero, show n % p = k % p by omega, C_self, C_pascal]; simp
/-! ### the defs' worth -/
def CZ (n : Nat) (k : Int) : Nat := if k < 0 then 0 else C n k.toNat
theorem CZ_nat (n k : Nat) : CZ n (k : Int) = C n k := by
  unfold CZ; rw [if_neg (by omega), Int.toNat_natCast]
theorem CZ_neg {n : Nat} {k : Int} (h : k < 0) : CZ n k = 0 := by unfold CZ; rw [if_pos h]
theorem CZ_out {n : Nat} {k : Int} (h : k < 0 ∨ (n : Int) < k) : CZ n k = 0 := by
  unfold CZ; split
  · rfl
  · exact C_gt (by omega)
abbrev eNZ : Nat × Int → List PyData := fun a => [nD a.1, .int a.2]
abbrev eNZN : Nat × Int × Nat → List PyData := fun a => [nD a.1, .int a.2.1, nD a.2.2]
def sp_choose : SpD := spE eNZ (fun a => a.1 < 2 ^ 60) fun a => nD (CZ a.1 a.2)
abbrev Pre3 (a : Nat × Int × Nat) : Prop := a.1 < 2 ^ 60 ∧ Pr a.2.2
def sp_rest : SpD := spE eNZN Pre3 fun a => nD (CZ a.1 a.2.1 % a.2.2)
theorem C_next {n k : Nat} (h : k < n) : C n k * (n - k) / (k + 1) = C n (k + 1) := by
  have := C_step (n := n) (k := k) (by omega)
  rw [Nat.mul_comm, ← this, Nat.mul_div_cancel_left _ (by omega)]
theorem C_min {n k : Nat} (h : k ≤ n) : C n (min k (n - k)) = C n k := by
  rcases Nat.le_total k (n - k) with g | g
  · rw [Nat.min_eq_left g]
  · rw [Nat.min_eq_right g, C_symm h]
/-- one figure of Lucas' product -/
theorem lucas_step {p : Nat} (hp : Pr p) {f n k i : Nat} : (f * C (n / p ^ i % p) (k / p ^ i % p) % p) * C (n / p ^ (i + 1)) (k / p ^ (i + 1)) % p = f * C (n / p ^ i) (k / p ^ i) % p := by
  rw [Nat.pow_succ, ← Nat.div_div_eq_div_mul, ← Nat.div_div_eq_div_mul]
  generalize n / p ^ i = N
  generalize k / p ^ i = M
  rw [Nat.mod_mul_mod, Nat.mul_assoc, Nat.mul_mod, Nat.mul_comm (C (N % p) (M % p)), ← lucas1 hp N M, ← Nat.mul_mod]
/-- all rows to one -/
def tabD (n : Nat) : List PyData := (List.range (n + 1)).map fun i => PyData.list ((rowC i).map nD)
theorem tabD_succ (n : Nat) : tabD (n + 1) = tabD n ++ [.list ((rowC (n + 1)).map nD)] := by
  unfold tabD; rw [List.range_succ (n := n + 1), List.map_append]; rfl
theorem tabD_len (n : Nat) : (tabD n).length = n + 1 := by unfold tabD; rw [List.length_map, List.length_range]
theorem tabD_get {n i : Nat} (h : i ≤ n) : (tabD n)[i]? = some (.list ((rowC i).map nD)) := by
  unfold tabD; rw [List.getElem?_map, List.getElem?_range (by omega)]; rfl
theorem rowC_get {n i : Nat} (h : i ≤ n) : (rowC n)[i]? = some (C n i) := by
  unfold rowC; rw [List.getElem?_map, List.getElem?_range (by omega)]; rfl
theorem rowC_getD (n i : Nat) : (rowC n).getD i 0 = C n i := by
  rw [List.getD_eq_getElem?_getD]
  by_cases h : i ≤ n
  · rw [rowC_get h]; rfl
  · rw [List.getElem?_eq_none (by rw [rowC_len]; omega), C_gt (by omega)]; rfl
theorem pad_get (n i : Nat) : (([0] ++ rowC n) ++ [0]).getD i 0 = if i = 0 then 0 else C n (i - 1) := by
  cases i with
  | zero => rfl
  | succ i =>
    show (rowC n ++ [0]).getD i 0 = _
    rw [if_neg (by omega), Nat.add_sub_cancel, ← rowC_getD]
    rw [List.getD_eq_getElem?_getD, List.getD_eq_getElem?_getD]
    by_cases h : i < (rowC n).length
    · rw [List.getElem?_append_left h]
    · rw [List.getElem?_append_right (by omega), List.getElem?_eq_none (by omega : (rowC n).length ≤ i)]
      match i - (rowC n).length with
      | 0 => rfl
      | k + 1 => rfl
theorem rowC_next (n : Nat) : ((List.range ((([0] ++ rowC n) ++ [0]).length - 1)).map fun i => (([0] ++ rowC n) ++ [0]).getD i 0 + (([0] ++ rowC n) ++ [0]).getD (i + 1) 0) = rowC (n + 1) := by
  have e : (([0] ++ rowC n) ++ [0]).length - 1 = n + 2 := by simp [rowC_len]
  rw [e]
  unfold rowC
  refine List.map_congr_left fun i hi => ?_
  show (([0] ++ rowC n) ++ [0]).getD i 0 + (([0] ++ rowC n) ++ [0]).getD (i + 1) 0 = _
  rw [pad_get, pad_get, if_neg (Nat.succ_ne_zero i), Nat.add_sub_cancel]
  cases i with
  | zero => rw [if_pos rfl, C_zero, C_zero]
  | succ i => rw [if_neg (by omega), Nat.add_sub_cancel, C_pascal]
theorem fac_le (n : Nat) : fac n ≤ 2 ^ (n * n) := by
  induction n with
  | zero => decide
  | succ n ih =>
    have h1 : n + 1 ≤ 2 ^ n := Nat.lt_two_pow_self
    have h2 : (n + 1) * fac n ≤ 2 ^ n * 2 ^ (n * n) := Nat.mul_le_mul h1 ih
    have h3 : 2 ^ n * 2 ^ (n * n) ≤ 2 ^ ((n + 1) * (n + 1)) := by
      rw [← Nat.pow_add]
      refine Nat.pow_le_pow_right (by omega) ?_
      have : (n + 1) * (n + 1) = n * n + n + (n + 1) := by rw [Nat.add_mul, Nat.mul_add]; omega
      omega
    exact Nat.le_trans h2 h3
theorem mulok_bits {a b i j : Nat} (hi : i ≤ 2 ^ a) (hj : j ≤ 2 ^ b) (h : a + b < 999998) : MulOk i j := by
  by_cases h0 : i = 0
  · exact .inl (by omega)
  by_cases h1 : j = 0
  · exact .inr (.inl (by omega))
  refine .inr (.inr ?_)
  unfold CMulW
  rw [Int.natAbs_natCast, Int.natAbs_natCast]
  have p1 : 2 ^ a < 2 ^ (a + 1) := by rw [Nat.pow_succ]; have := Nat.two_pow_pos a; omega
  have p2 : 2 ^ b < 2 ^ (b + 1) := by rw [Nat.pow_succ]; have := Nat.two_pow_pos b; omega
  have l1 : i.log2 < a + 1 := (Nat.log2_lt h0).mpr (by omega)
  have l2 : j.log2 < b + 1 := (Nat.log2_lt h1).mpr (by omega)
  omega
theorem atI_row {n : Nat} {z : Int} (h0 : 0 ≤ z) (h1 : z ≤ n) : atI ((rowC n).map nD) z = some (nD (CZ n z)) := by
  obtain ⟨j, rfl⟩ : ∃ j : Nat, z = (j : Int) := ⟨z.toNat, by omega⟩
  rw [CZ_nat]
  exact atI_nat (by rw [List.getElem?_map, rowC_get (by omega)]; rfl)
theorem fac_step {n i : Nat} (h : i < n) : C n i * fac i * (n - i) = C n (i + 1) * fac (i + 1) := by
  have := C_step (n := n) (k := i) (by omega)
  show _ = C n (i + 1) * ((i + 1) * fac i)
  rw [Nat.mul_right_comm, Nat.mul_comm (C n i), ← this, Nat.mul_comm (i + 1), Nat.mul_assoc]
end PL
set_option maxHeartbeats 1000000
namespace PL
open PySem PySem.Spec PyProof.Rows L2 RZ
/-! ### rests by a prime, more -/
theorem Pr_mul0 {p : Nat} (h : Pr p) {a b : Nat} : a * b % p = 0 ↔ a % p = 0 ∨ b % p = 0 := by
  have e : ∀ p, p < 8 → Pr p → ∀ a, a < p → ∀ b, b < p → (decide (a * b % p = 0) = decide (a = 0 ∨ b = 0)) := by unfold Pr; decide
  have h2 := Pr_two h
  rw [Nat.mul_mod]
  exact decide_eq_decide.mp (e p (by have := Pr_seven h; omega) h _ (Nat.mod_lt _ (by omega)) _ (Nat.mod_lt _ (by omega)))
theorem C_small {p : Nat} (h : Pr p) {a b : Nat} (ha : a < p) (hb : b < p) : C a b % p = 0 ↔ a < b := by
  have e : ∀ p, p < 8 → Pr p → ∀ a, a < p → ∀ b, b < p → (decide (C a b % p = 0) = decide (a < b)) := by unfold Pr; decide
  exact decide_eq_decide.mp (e p (by have := Pr_seven h; omega) h a ha b hb)
theorem lucas_mul {p : Nat} (hp : Pr p) {n k a b : Nat} (ha : a < p) (hb : b < p) : C (n * p + a) (k * p + b) % p = C n k * C a b % p := by
  have h2 := Pr_two hp
  rw [lucas1 hp, Nat.mul_comm n p, Nat.mul_comm k p, Nat.mul_add_div (by omega), Nat.mul_add_div (by omega), Nat.div_eq_of_lt ha, Nat.div_eq_of_lt hb, Nat.mul_add_mod, Nat.mul_add_mod, Nat.mod_eq_of_lt ha, Nat.mod_eq_of_lt hb, Nat.add_zero, Nat.add_zero]
/-- the prime divides just where a figure is greater -/
theorem C_digits {p : Nat} (hp : Pr p) : ∀ (m n k : Nat), n ≤ m → (C n k % p ≠ 0 ↔ ∀ i, k / p ^ i % p ≤ n / p ^ i % p)
  | m, n, k, h => by
    have h2 := Pr_two hp
    by_cases h0 : n = 0
    · subst h0
      constructor
      · intro g i
        cases k with
        | zero => rw [Nat.zero_div]; simp
        | succ k => rw [C_0s] at g; simp at g
      · intro g
        have : k = 0 := by
          rw [← numOf_figs' h2 k]
          have e : ∀ l : List Nat, (∀ i, l.getD i 0 = 0) → numOf p l = 0 := by
            intro l
            induction l with
            | nil => intro _; rfl
            | cons x r ih =>
              intro q
              have q0 := q 0
              simp at q0
              show numOf p r * p + x = 0
              rw [ih fun i => by have := q (i + 1); simpa using this, q0]; simp
          refine e _ fun i => ?_
          rw [figs_get h2]
          have := g i
          rw [Nat.zero_div, Nat.zero_mod] at this
          omega
        subst this
        rw [C_zero]
        rw [Nat.mod_eq_of_lt (by omega)]; omega
    · have hlt : n / p < n := Nat.div_lt_self (by omega) (by omega)
      have ih := C_digits hp (n / p) (n / p) (k / p) (Nat.le_refl _)
      rw [lucas1 hp n k, Ne, Pr_mul0 hp, not_or, C_small hp (Nat.mod_lt _ (by omega)) (Nat.mod_lt _ (by omega)), ← Ne, ih, Nat.not_lt]
      constructor
      · rintro ⟨g1, g2⟩ i
        cases i with
        | zero => rw [Nat.pow_zero, Nat.div_one, Nat.div_one]; exact g2
        | succ i =>
          have := g1 i
          rwa [Nat.div_div_eq_div_mul, Nat.div_div_eq_div_mul, Nat.mul_comm p, ← Nat.pow_succ] at this
      · intro g
        refine ⟨fun i => ?_, ?_⟩
        · have := g (i + 1)
          rwa [Nat.pow_succ, Nat.mul_comm _ p, ← Nat.div_div_eq_div_mul, ← Nat.div_div_eq_div_mul] at this
        · have := g 0
          rwa [Nat.pow_zero, Nat.div_one, Nat.div_one] at this
termination_by m n => n
decreasing_by exact hlt
theorem C_pow {p : Nat} (hp : Pr p) : ∀ (m s : Nat), 0 < s → s < p ^ m → C (p ^ m) s % p = 0
  | 0, s, h, g => by simp at g; omega
  | m + 1, s, h, g => by
    have h2 := Pr_two hp
    rw [lucas1 hp, Nat.pow_succ, Nat.mul_div_cancel _ (by omega), Nat.mul_mod_left]
    by_cases hs : s % p = 0
    · have e := Nat.div_add_mod s p
      rw [hs] at e
      have h3 : 0 < s / p := Nat.div_pos (Nat.le_of_not_lt fun z => by rw [Nat.mod_eq_of_lt z] at hs; omega) (by omega)
      have h4 : s / p < p ^ m := by
        apply Nat.div_lt_of_lt_mul; rwa [Nat.mul_comm, ← Nat.pow_succ]
      rw [Nat.mul_mod, C_pow hp m _ h3 h4]; simp
    · rw [C_gt (by omega : 0 < s % p)]; simp
theorem C_pow1 {p : Nat} (hp : Pr p) {m : Nat} : ∀ (s : Nat), s < p ^ m → C (p ^ m - 1) s % p = if s % 2 = 0 then 1 else p - 1
  | 0, h => by
    have h2 := Pr_two hp
    rw [C_zero, Nat.mod_eq_of_lt (by omega)]; rfl
  | s + 1, h => by
    have h2 := Pr_two hp
    have ih := C_pow1 (m := m) hp s (by omega)
    have e : p ^ m = (p ^ m - 1) + 1 := by omega
    have h3 := C_pow hp m (s + 1) (by omega) h
    rw [e, C_pascal, Nat.add_mod, ih] at h3
    have hl := Nat.mod_lt (C (p ^ m - 1) (s + 1)) (by omega : p > 0)
    generalize C (p ^ m - 1) (s + 1) % p = x at *
    by_cases hs : s % 2 = 0
    · rw [if_pos hs] at h3
      rw [if_neg (by omega)]
      by_cases hx : 1 + x < p
      · rw [Nat.mod_eq_of_lt hx] at h3; omega
      · omega
    · rw [if_neg hs] at h3
      rw [if_pos (by omega)]
      by_cases hx : p - 1 + x < p
      · rw [Nat.mod_eq_of_lt hx] at h3; omega
      · have : p - 1 + x = p + (x - 1) := by omega
        rw [this, Nat.add_mod_left, Nat.mod_eq_of_lt (by omega)] at h3; omega
theorem CZ_pascal (n k p : Nat) : CZ (n + 1) ((k + 1 : Nat) : Int) % p = (CZ n (k : Nat) % p + CZ n ((k + 1 : Nat) : Int) % p) % p := by
  rw [CZ_nat, CZ_nat, CZ_nat, C_pascal, Nat.add_mod]
theorem CZ_symm (n k : Nat) : CZ n ((n : Int) - (k : Int)) = CZ n (k : Int) := by
  by_cases h : k ≤ n
  · rw [show (n : Int) - (k : Int) = ((n - k : Nat) : Int) by omega, CZ_nat, CZ_nat, C_symm h]
  · rw [CZ_neg (by omega), CZ_nat, C_gt (by omega)]
theorem figs_pow_le {p : Nat} (hp : 2 ≤ p) : ∀ (m n : Nat), n ≤ m → 0 < n → p ^ (figs p n).length ≤ p * n
  | 0, n, h, h0 => by omega
  | m + 1, n, h, h0 => by
    rw [figs_pos hp h0, List.length_cons, Nat.pow_succ]
    by_cases g : 0 < n / p
    · have := figs_pow_le hp m (n / p) (by have := Nat.div_lt_self h0 hp; omega) g
      have h3 : p * (n / p) ≤ n := Nat.mul_div_le n p
      rw [Nat.mul_comm]
      exact Nat.mul_le_mul_left _ (Nat.le_trans this h3)
    · rw [show n / p = 0 from Nat.eq_zero_of_not_pos g, figs_zero]; simp
      exact Nat.le_mul_of_pos_right _ h0
theorem enumD_map (ns : List Nat) : ∀ k, enumD k (ns.map nD) = (List.range ns.length).map fun i => PyData.tuple [nD (k + i), nD (ns.getD i 0)] := by
  induction ns with
  | nil => intro k; rfl
  | cons x r ih =>
    intro k
    show PyData.tuple [.int (k : Int), nD x] :: enumD (k + 1) (r.map nD) = _
    rw [ih (k + 1), List.length_cons, List.range_succ_eq_map, List.map_cons, List.map_map]
    congr 1
    refine List.map_congr_left fun i _ => ?_
    show PyData.tuple [nD (k + 1 + i), nD (r.getD i 0)] = PyData.tuple [nD (k + (i + 1)), nD (r.getD i 0)]
    rw [show k + 1 + i = k + (i + 1) by omega]
theorem enumD_nD (ns : List Nat) : enumD 0 (ns.map nD) = (List.range ns.length).map fun i => PyData.tuple [nD i, nD (ns.getD i 0)] := by
  rw [enumD_map]
  refine List.map_congr_left fun i _ => ?_
  rw [Nat.zero_add]
/-- what the table by rests says of a place -/
theorem isin_eq {p : Nat} (hp : Pr p) {n s k : Nat} : (!decide (C n s % p = 0)) = (decide (s ≤ n) && !!(((List.range (figs p n).length).filter fun i => decide ((figs p n).getD i 0 < (figs p s ++ List.replicate k 0).getD i 0)).map fun _ => nD 1).isEmpty) := by
  have h2 := Pr_two hp
  rw [Bool.not_not, List.isEmpty_map, Bool.eq_iff_iff, Bool.and_eq_true, Bool.not_eq_true', decide_eq_false_iff_not, decide_eq_true_eq, List.isEmpty_iff, List.filter_eq_nil_iff, ← Ne, C_digits hp n n s (Nat.le_refl _)]
  constructor
  · intro h
    refine ⟨?_, fun i hi => ?_⟩
    · have := (C_digits hp n n s (Nat.le_refl _)).mpr h
      apply Nat.le_of_not_lt; intro g
      rw [C_gt g] at this; simp at this
    · rw [getD_padR, figs_get h2, figs_get h2]
      have := h i
      simp; omega
  · rintro ⟨h1, h3⟩ i
    by_cases hi : i < (figs p n).length
    · have := h3 i (List.mem_range.mpr hi)
      rw [getD_padR, figs_get h2, figs_get h2] at this
      simp at this; omega
    · have e1 : p ^ (figs p n).length ≤ p ^ i := Nat.pow_le_pow_right (by omega) (by omega)
      have e2 := figs_lt_pow h2 n
      rw [Nat.div_eq_of_lt (by omega)]; simp
end PL
set_option maxHeartbeats 1000000
namespace PL
open PySem PySem.Spec PyProof.Rows L2 RZ
/-! ### how often a prime divides -/
def vp (p n : Nat) : Nat := if h : p < 2 ∨ n = 0 then 0 else if n % p = 0 then vp p (n / p) + 1 else 0
termination_by n
decreasing_by exact Nat.div_lt_self (by omega) (by omega)
theorem vp_no {p n : Nat} (h : n % p ≠ 0) : vp p n = 0 := by
  rw [vp]; split
  · rfl
  · first | rfl | rw [if_neg h]
theorem vp_yes {p n : Nat} (hp : 2 ≤ p) (h0 : 0 < n) (h : n % p = 0) : vp p n = vp p (n / p) + 1 := by
  rw [vp, dif_neg (by omega), if_pos h]
theorem vp_mulp {p n : Nat} (hp : 2 ≤ p) (h0 : 0 < n) : vp p (p * n) = vp p n + 1 := by
  rw [vp_yes hp (Nat.mul_pos (by omega) h0) (Nat.mul_mod_right _ _), Nat.mul_div_cancel_left _ (by omega)]
theorem vp_pow_mul {p m : Nat} (hp : 2 ≤ p) (h0 : 0 < m) (h : m % p ≠ 0) : ∀ k, vp p (p ^ k * m) = k
  | 0 => by rw [Nat.pow_zero, Nat.one_mul, vp_no h]
  | k + 1 => by
    rw [Nat.pow_succ, Nat.mul_comm (p ^ k) p, Nat.mul_assoc, vp_mulp hp (Nat.mul_pos (Nat.pow_pos (by omega)) h0), vp_pow_mul hp h0 h k]
theorem vp_split {p : Nat} (hp : 2 ≤ p) : ∀ (k n : Nat), n ≤ k → 0 < n → ∃ m, n = p ^ vp p n * m ∧ m % p ≠ 0 ∧ 0 < m
  | 0, n, h, h0 => by omega
  | k + 1, n, h, h0 => by
    by_cases g : n % p = 0
    · have e := Nat.div_add_mod n p
      have h1 : 0 < n / p := Nat.div_pos (Nat.le_of_not_lt fun z => by rw [Nat.mod_eq_of_lt z] at g; omega) (by omega)
      have h2 : n / p < n := Nat.div_lt_self h0 hp
      obtain ⟨m, e1, e2, e3⟩ := vp_split hp k (n / p) (by omega) h1
      refine ⟨m, ?_, e2, e3⟩
      rw [vp_yes hp h0 g, Nat.pow_succ, Nat.mul_comm (p ^ _) p, Nat.mul_assoc, ← e1]
      omega
    · exact ⟨n, by rw [vp_no g]; simp, g, h0⟩
theorem vp_mul {p a b : Nat} (hp : Pr p) (ha : 0 < a) (hb : 0 < b) : vp p (a * b) = vp p a + vp p b := by
  have h2 := Pr_two hp
  obtain ⟨m, e1, e2, e3⟩ := vp_split h2 a a (Nat.le_refl _) ha
  obtain ⟨n, f1, f2, f3⟩ := vp_split h2 b b (Nat.le_refl _) hb
  generalize vp p a = i at *
  generalize vp p b = j at *
  subst e1 f1
  rw [show p ^ i * m * (p ^ j * n) = p ^ (i + j) * (m * n) by rw [Nat.pow_add]; simp only [Nat.mul_assoc, Nat.mul_left_comm], vp_pow_mul h2 (Nat.mul_pos e3 f3) fun z => by
    rcases (Pr_mul0 hp).mp z with z | z
    · exact e2 z
    · exact f2 z]
theorem leg_succ {p : Nat} (hp : 2 ≤ p) : ∀ (k n : Nat), n ≤ k → leg p (n + 1) = leg p n + vp p (n + 1)
  | k, n, h => by
    by_cases g : (n + 1) % p = 0
    · have e := Nat.div_add_mod (n + 1) p
      rw [g] at e
      have hq : 0 < (n + 1) / p := Nat.div_pos (Nat.le_of_not_lt fun z => by rw [Nat.mod_eq_of_lt z] at g; omega) (by omega)
      have e2 : n / p = (n + 1) / p - 1 := by
        generalize (n + 1) / p = q at *
        obtain ⟨q, rfl⟩ : ∃ r, q = r + 1 := ⟨q - 1, by omega⟩
        rw [show n = p * q + (p - 1) by rw [Nat.mul_add] at e; omega, Nat.mul_add_div (by omega), Nat.div_eq_of_lt (by omega)]; rfl
      have hlt : (n + 1) / p < n + 1 := Nat.div_lt_self (by omega) hp
      rw [leg_front hp, leg_front (n := n) hp, vp_yes hp (by omega) g, e2]
      generalize (n + 1) / p = q at *
      obtain ⟨q, rfl⟩ : ∃ r, q = r + 1 := ⟨q - 1, by omega⟩
      rw [leg_succ hp (k - 1) q (by omega), Nat.add_sub_cancel]
      omega
    · have e2 : (n + 1) / p = n / p := by
        have e := Nat.div_add_mod (n + 1) p
        have hl := Nat.mod_lt (n + 1) (by omega : p > 0)
        generalize (n + 1) / p = q at *
        rw [show n = p * q + ((n + 1) % p - 1) by omega, Nat.mul_add_div (by omega), Nat.div_eq_of_lt (by omega)]; rfl
      rw [leg_front hp, leg_front (n := n) hp, vp_no g, e2]; rfl
termination_by k n => n
decreasing_by omega
theorem vp_fac {p : Nat} (hp : Pr p) : ∀ n, vp p (fac n) = leg p n
  | 0 => by rw [leg_zero]; show vp p 1 = 0; exact vp_no (by have := Pr_two hp; rw [Nat.mod_eq_of_lt (by omega)]; omega)
  | n + 1 => by
    show vp p ((n + 1) * fac n) = _
    rw [vp_mul hp (by omega) (fac_pos n), vp_fac hp n, leg_succ (Pr_two hp) n n (Nat.le_refl _)]; omega
theorem kummer {p : Nat} (hp : Pr p) (a b : Nat) : vp p (C (a + b) a) = (cyL p a b).length := by
  have h := congrArg (vp p) (C_fac a b)
  rw [vp_mul hp (C_pos (by omega)) (Nat.mul_pos (fac_pos a) (fac_pos b)), vp_mul hp (fac_pos a) (fac_pos b), vp_fac hp, vp_fac hp, vp_fac hp, leg_carries (Pr_two hp)] at h
  omega
/-! ### several parts -/
def pf : List Nat → Nat
  | [] => 1
  | x :: r => fac x * pf r
def mC : Nat → List Nat → Nat
  | _, [] => 1
  | t, x :: r => C (t + x) x * mC (t + x) r
theorem pf_pos : ∀ l, 0 < pf l
  | [] => by decide
  | x :: r => Nat.mul_pos (fac_pos x) (pf_pos r)
theorem pf_append : ∀ a b, pf (a ++ b) = pf a * pf b
  | [], b => by show pf b = 1 * pf b; omega
  | x :: r, b => by show fac x * pf (r ++ b) = fac x * pf r * pf b; rw [pf_append r b, Nat.mul_assoc]
theorem pf_reverse : ∀ l, pf l.reverse = pf l
  | [] => rfl
  | x :: r => by rw [List.reverse_cons, pf_append, pf_reverse r]; show pf r * (fac x * 1) = fac x * pf r; rw [Nat.mul_one, Nat.mul_comm]
theorem mC_fac : ∀ (l : List Nat) (t : Nat), mC t l * (fac t * pf l) = fac (t + l.sum)
  | [], t => by show 1 * (fac t * 1) = fac (t + 0); simp
  | x :: r, t => by
    show C (t + x) x * mC (t + x) r * (fac t * (fac x * pf r)) = fac (t + (x :: r).sum)
    have h1 := mC_fac r (t + x)
    have h2 := C_fac t x
    rw [C_symm'] at h2
    rw [List.sum_cons, ← Nat.add_assoc, ← h1, ← h2]
    simp only [Nat.mul_assoc, Nat.mul_comm, Nat.mul_left_comm]
theorem mC_eq (l : List Nat) : mC 0 l * pf l = fac l.sum := by
  have := mC_fac l 0
  rw [Nat.zero_add] at this
  rw [← this]; show _ = _ * (1 * pf l); rw [Nat.one_mul]
theorem mC_div (l : List Nat) : fac l.sum / pf l = mC 0 l := by rw [← mC_eq, Nat.mul_div_cancel _ (pf_pos l)]
theorem sum_reverse' : ∀ l : List Nat, l.reverse.sum = l.sum
  | [] => rfl
  | x :: r => by rw [List.reverse_cons, List.sum_append, sum_reverse' r, List.sum_cons]; simp; omega
theorem mC_reverse (l : List Nat) : mC 0 l.reverse = mC 0 l := by
  rw [← mC_div, ← mC_div, pf_reverse, sum_reverse']
theorem mC_pos : ∀ (l : List Nat) (t : Nat), 0 < mC t l
  | [], _ => by show 0 < 1; omega
  | x :: r, t => Nat.mul_pos (C_pos (by omega)) (mC_pos r _)
theorem mC_snoc : ∀ (l : List Nat) (t x : Nat), mC t (l ++ [x]) = mC t l * C (t + l.sum + x) x
  | [], t, x => by show C (t + x) x * 1 = 1 * C (t + 0 + x) x; rw [Nat.mul_one, Nat.one_mul, Nat.add_zero]
  | y :: r, t, x => by
    show C (t + y) y * mC (t + y) (r ++ [x]) = C (t + y) y * mC (t + y) r * C (t + (y :: r).sum + x) x
    rw [mC_snoc r (t + y) x, List.sum_cons, Nat.mul_assoc, show t + y + r.sum + x = t + (y + r.sum) + x by omega]
def legs (p : Nat) : List Nat → Nat
  | [] => 0
  | x :: r => leg p x + legs p r
theorem vp_pf {p : Nat} (hp : Pr p) : ∀ l, vp p (pf l) = legs p l
  | [] => vp_fac hp 0
  | x :: r => by show vp p (fac x * pf r) = leg p x + legs p r; rw [vp_mul hp (fac_pos x) (pf_pos r), vp_fac hp, vp_pf hp r]
theorem vp_mC {p : Nat} (hp : Pr p) (l : List Nat) : vp p (mC 0 l) + legs p l = leg p l.sum := by
  rw [← vp_pf hp, ← vp_mul hp (mC_pos l 0) (pf_pos l), mC_eq, vp_fac hp]
theorem legs_append (p : Nat) : ∀ a b, legs p (a ++ b) = legs p a + legs p b
  | [], b => by show legs p b = 0 + legs p b; omega
  | x :: r, b => by show leg p x + legs p (r ++ b) = leg p x + legs p r + legs p b; rw [legs_append p r b]; omega
theorem take_get {l : List Nat} {i x : Nat} (h : l[i]? = some x) : l.take (i + 1) = l.take i ++ [x] := by
  rw [List.take_add_one, h]; rfl
theorem divok_bits {a j : Nat} (h0 : 0 < j) (hj : j ≤ 2 ^ a) (h : a < 8998) : DivOk j := by
  refine ⟨h0, .inr ?_⟩
  rw [Int.natAbs_natCast]
  have p1 : 2 ^ a < 2 ^ (a + 1) := by rw [Nat.pow_succ]; have := Nat.two_pow_pos a; omega
  have l1 : j.log2 < a + 1 := (Nat.log2_lt (by omega)).mpr (by omega)
  omega
theorem leg_le {p : Nat} (hp : 2 ≤ p) (n : Nat) : leg p n ≤ n := by
  have h := figs_leg' hp n
  have : 1 * leg p n ≤ (p - 1) * leg p n := Nat.mul_le_mul_right _ (by omega)
  omega
theorem sum_take_le : ∀ (l : List Nat) (i : Nat), (l.take i).sum ≤ l.sum
  | [], i => by simp
  | x :: r, 0 => by simp
  | x :: r, i + 1 => by rw [List.take_succ_cons, List.sum_cons, List.sum_cons]; have := sum_take_le r i; omega
/-! ### the defs' worth -/
def sp_power_in_product : SpD := spE e2 PreN fun a => nD (leg a.2 a.1)
def sp_power_in : SpD := spE e2 (fun a => 0 < a.1 ∧ 2 ≤ a.2 ∧ a.2 < 2 ^ 60) fun a => nD (vp a.2 a.1)
theorem mC_le (l : List Nat) : mC 0 l ≤ 2 ^ (l.sum * l.sum) := by
  refine Nat.le_trans ?_ (fac_le l.sum)
  rw [← mC_eq]
  exact Nat.le_mul_of_pos_right _ (pf_pos l)
def sp_choose_many : SpD := spE eT1 (fun l => l.sum ≤ 900) fun l => nD (mC 0 l)
def sp_rest_many : SpD := spE eT2 (fun a => a.1.sum < 2 ^ 60 ∧ Pr a.2) fun a => nD (mC 0 a.1 % a.2)
def sp_power_many : SpD := spE eT2 (fun a => a.1.sum < 2 ^ 60 ∧ Pr a.2) fun a => nD (vp a.2 (mC 0 a.1))
end PL
set_option maxHeartbeats 1000000
namespace PL
open PySem PySem.Spec PyProof.Rows L2 RZ
/-! ### choices together -/
theorem CZ_symmZ (n : Nat) (z : Int) : CZ n ((n : Int) - z) = CZ n z := by
  by_cases h0 : z < 0
  · rw [CZ_out (by omega), CZ_neg h0]
  · obtain ⟨k, rfl⟩ : ∃ k : Nat, z = (k : Int) := ⟨z.toNat, by omega⟩
    exact CZ_symm n k
theorem CZ_pascalZ {n : Nat} (h : 0 < n) (z : Int) : CZ (n - 1) (z - 1) + CZ (n - 1) z = CZ n z := by
  by_cases h0 : z < 0
  · rw [CZ_neg (by omega), CZ_neg h0, CZ_neg h0]
  · obtain ⟨k, rfl⟩ : ∃ k : Nat, z = (k : Int) := ⟨z.toNat, by omega⟩
    obtain ⟨m, rfl⟩ : ∃ m, n = m + 1 := ⟨n - 1, by omega⟩
    rw [Nat.add_sub_cancel]
    cases k with
    | zero => rw [CZ_neg (by omega), CZ_nat, CZ_nat, C_zero, C_zero]
    | succ k => rw [show ((k + 1 : Nat) : Int) - 1 = (k : Int) by omega, CZ_nat, CZ_nat, CZ_nat, C_pascal]
theorem CZ_absorbZ {n : Nat} (h : 0 < n) {z : Int} (hz : 0 < z) : z * (CZ n z : Int) = ((n * CZ (n - 1) (z - 1) : Nat) : Int) := by
  obtain ⟨k, rfl⟩ : ∃ k : Nat, z = ((k + 1 : Nat) : Int) := ⟨(z - 1).toNat, by omega⟩
  obtain ⟨m, rfl⟩ : ∃ m, n = m + 1 := ⟨n - 1, by omega⟩
  rw [Nat.add_sub_cancel, show ((k + 1 : Nat) : Int) - 1 = (k : Int) by omega, CZ_nat, CZ_nat, ← Int.natCast_mul, C_absorb]
theorem CZ_zero_iff (n : Nat) (z : Int) : CZ n z = 0 ↔ z < 0 ∨ (n : Int) < z := by
  constructor
  · intro h
    by_cases h0 : z < 0
    · exact .inl h0
    · obtain ⟨k, rfl⟩ : ∃ k : Nat, z = (k : Int) := ⟨z.toNat, by omega⟩
      rw [CZ_nat] at h
      by_cases g : k ≤ n
      · have := C_pos g; omega
      · omega
  · exact CZ_out
theorem CZ_le (n : Nat) (z : Int) : CZ n z ≤ 2 ^ n := by
  unfold CZ; split
  · exact Nat.zero_le _
  · exact C_le _ _
theorem mod_sub (a p : Nat) : a % p = a - a / p * p := by
  have := Nat.div_add_mod a p
  rw [Nat.mul_comm] at this; omega
/-- some of some -/
theorem C_trinom {n k i : Nat} (hk : k ≤ n) : C n k * C k i = C n i * CZ (n - i) ((k : Int) - (i : Int)) := by
  by_cases h : i ≤ k
  · rw [show (k : Int) - (i : Int) = ((k - i : Nat) : Int) by omega, CZ_nat]
    have h1 := C_fac k (n - k)
    have h2 := C_fac i (k - i)
    have h3 := C_fac i (n - i)
    have h4 := C_fac (k - i) (n - k)
    rw [show k + (n - k) = n by omega] at h1
    rw [show i + (k - i) = k by omega] at h2
    rw [show i + (n - i) = n by omega] at h3
    rw [show k - i + (n - k) = n - i by omega] at h4
    refine Nat.eq_of_mul_eq_mul_right (Nat.mul_pos (fac_pos i) (Nat.mul_pos (fac_pos (k - i)) (fac_pos (n - k)))) ?_
    calc C n k * C k i * (fac i * (fac (k - i) * fac (n - k))) = C n k * ((C k i * (fac i * fac (k - i))) * fac (n - k)) := by
          simp only [Nat.mul_assoc, Nat.mul_comm, Nat.mul_left_comm]
      _ = fac n := by rw [h2, h1]
      _ = C n i * (fac i * (C (n - i) (k - i) * (fac (k - i) * fac (n - k)))) := by rw [h4, h3]
      _ = _ := by simp only [Nat.mul_assoc, Nat.mul_comm, Nat.mul_left_comm]
  · rw [C_gt (show k < i by omega), CZ_neg (by omega)]; simp
theorem opd_mulZ {X : Cx} {T : Option Addr} {i : Int} {j a b : Nat} (hi : i.natAbs ≤ 2 ^ a) (hj : j ≤ 2 ^ b) (h : a + b < 999998) : OpD X T (binaryOp .Mult) (.int i) (nD j) (.int (i * (j : Int))) := by
  refine opd_mulW ?_
  unfold CMulW
  rw [Int.natAbs_natCast]
  have p1 : 2 ^ a < 2 ^ (a + 1) := by rw [Nat.pow_succ]; have := Nat.two_pow_pos a; omega
  have p2 : 2 ^ b < 2 ^ (b + 1) := by rw [Nat.pow_succ]; have := Nat.two_pow_pos b; omega
  have l1 : i.natAbs.log2 < a + 1 := by
    by_cases h0 : i.natAbs = 0
    · rw [h0]; have : Nat.log2 0 = 0 := by decide
      omega
    · exact (Nat.log2_lt h0).mpr (by omega)
  have l2 : j.log2 < b + 1 := by
    by_cases h0 : j = 0
    · rw [h0]; have : Nat.log2 0 = 0 := by decide
      omega
    · exact (Nat.log2_lt h0).mpr (by omega)
  omega
end PL
set_option maxHeartbeats 1000000
namespace PL
open PySem PySem.Spec PyProof.Rows L2 RZ
/-! ### figures put together -/
theorem figs_mulp {p n : Nat} (hp : 2 ≤ p) (hn : 0 < n) : figs p (n * p) = 0 :: figs p n := by
  rw [figs_pos hp (Nat.mul_pos hn (by omega)), Nat.mul_mod_left, Nat.mul_div_cancel _ (by omega)]
theorem figs_mul_pow {p n : Nat} (hp : 2 ≤ p) (hn : 0 < n) : ∀ h, figs p (n * p ^ h) = List.replicate h 0 ++ figs p n
  | 0 => by simp
  | h + 1 => by
    rw [Nat.pow_succ, ← Nat.mul_assoc, figs_mulp hp (Nat.mul_pos hn (Nat.pow_pos (by omega))), figs_mul_pow hp hn h, List.replicate_succ]; rfl
theorem sum_zeros (h : Nat) : (List.replicate h 0).sum = 0 := by
  induction h with
  | zero => rfl
  | succ h ih => rw [List.replicate_succ, List.sum_cons, ih]
theorem figs_mul_sum {p : Nat} (hp : 2 ≤ p) (n h : Nat) : (figs p (n * p ^ h)).sum = (figs p n).sum := by
  by_cases hn : 0 < n
  · rw [figs_mul_pow hp hn, List.sum_append, sum_zeros]; omega
  · rw [show n = 0 by omega, Nat.zero_mul]
theorem figs_one {p : Nat} (hp : 2 ≤ p) : figs p 1 = [1] := by
  rw [figs_pos hp (by omega), Nat.mod_eq_of_lt (by omega), Nat.div_eq_of_lt (by omega), figs_zero]
theorem figs_pow_sum {p : Nat} (hp : 2 ≤ p) (h : Nat) : (figs p (p ^ h)).sum = 1 := by
  have := figs_mul_sum hp 1 h
  rw [Nat.one_mul, figs_one hp] at this
  exact this
theorem numOf_take {p : Nat} (hp : 2 ≤ p) : ∀ (h n : Nat), numOf p ((figs p n).take h) = n % p ^ h
  | 0, n => by simp [numOf, Nat.mod_one]
  | h + 1, n => by
    by_cases hn : 0 < n
    · rw [figs_pos hp hn, List.take_succ_cons]
      show numOf p ((figs p (n / p)).take h) * p + n % p = _
      rw [numOf_take hp h, Nat.pow_succ, Nat.mul_comm (p ^ h) p, Nat.mod_mul, Nat.mul_comm p]; omega
    · rw [show n = 0 by omega, figs_zero]; simp [numOf]
theorem numOf_top {p : Nat} (hp : 2 ≤ p) : ∀ h : Nat, numOf p (List.replicate h (p - 1)) = p ^ h - 1
  | 0 => rfl
  | h + 1 => by
    rw [List.replicate_succ]
    show numOf p (List.replicate h (p - 1)) * p + (p - 1) = _
    rw [numOf_top hp h, Nat.pow_succ, Nat.sub_mul]
    have : 1 * p ≤ p ^ h * p := Nat.mul_le_mul_right _ (Nat.pow_pos (by omega))
    omega
theorem figs_last {p : Nat} (hp : 2 ≤ p) : ∀ (k n : Nat), n ≤ k → ∀ d ∈ (figs p n).drop ((figs p n).length - 1), d ≠ 0
  | 0, n, h, d, hd => by
    rw [show n = 0 by omega, figs_zero] at hd; cases hd
  | k + 1, n, h, d, hd => by
    by_cases hn : 0 < n
    · rw [figs_pos hp hn] at hd
      by_cases g : 0 < n / p
      · have e : (figs p (n / p)).length ≠ 0 := by rw [figs_pos hp g]; simp
        rw [List.length_cons, Nat.add_sub_cancel] at hd
        obtain ⟨m, hm⟩ : ∃ m, (figs p (n / p)).length = m + 1 := ⟨(figs p (n / p)).length - 1, by omega⟩
        rw [hm, List.drop_succ_cons] at hd
        refine figs_last hp k (n / p) (by have := Nat.div_lt_self hn hp; omega) d ?_
        rw [hm, Nat.add_sub_cancel]; exact hd
      · rw [show n / p = 0 from Nat.eq_zero_of_not_pos g, figs_zero] at hd
        simp at hd
        have hlt : n < p := by
          have := Nat.div_eq_zero_iff.mp (Nat.eq_zero_of_not_pos g); omega
        rw [Nat.mod_eq_of_lt hlt] at hd; omega
    · rw [show n = 0 by omega, figs_zero] at hd; cases hd
theorem figs_last_ne {p : Nat} (hp : 2 ≤ p) (n : Nat) : (figs p n).drop ((figs p n).length - 1) ≠ [0] := fun e => figs_last hp n n (Nat.le_refl _) 0 (by rw [e]; simp) rfl
end PL
set_option maxHeartbeats 1000000
namespace PL
open PySem PySem.Spec PyProof.Rows L2 RZ
/-! ### tables by rules -/
def RU (n k l r : Nat) : Nat := C n k * l ^ k * r ^ (n - k)
def RUZ (n : Nat) (z : Int) (l r : Nat) : Nat := if z < 0 then 0 else RU n z.toNat l r
theorem RUZ_nat (n k l r : Nat) : RUZ n (k : Int) l r = RU n k l r := by unfold RUZ; rw [if_neg (by omega), Int.toNat_natCast]
theorem RU_gt {n k l r : Nat} (h : n < k) : RU n k l r = 0 := by unfold RU; rw [C_gt h]; simp
theorem RUZ_out {n l r : Nat} {z : Int} (h : z < 0 ∨ (n : Int) < z) : RUZ n z l r = 0 := by
  unfold RUZ; split
  · rfl
  · exact RU_gt (by omega)
theorem RU_front (n l r : Nat) : RU (n + 1) 0 l r = r * RU n 0 l r := by
  unfold RU; rw [C_zero, C_zero, Nat.pow_zero, Nat.sub_zero, Nat.sub_zero, Nat.pow_succ]; simp; rw [Nat.mul_comm]
theorem RU_step (n k l r : Nat) : RU (n + 1) (k + 1) l r = l * RU n k l r + r * RU n (k + 1) l r := by
  unfold RU
  rw [C_pascal, Nat.add_sub_add_right, Nat.add_mul, Nat.add_mul]
  congr 1
  · rw [Nat.pow_succ]; simp only [Nat.mul_assoc, Nat.mul_comm, Nat.mul_left_comm]
  · by_cases h : k + 1 ≤ n
    · have e : r ^ (n - k) = r ^ (n - (k + 1)) * r := by rw [← Nat.pow_succ]; congr 1; omega
      rw [e]; simp only [Nat.mul_assoc, Nat.mul_comm, Nat.mul_left_comm]
    · rw [C_gt (by omega : n < k + 1)]; simp
def rowR (n l r : Nat) : List Nat := (List.range (n + 1)).map fun k => RU n k l r
theorem rowR_len (n l r : Nat) : (rowR n l r).length = n + 1 := by unfold rowR; rw [List.length_map, List.length_range]
theorem rowR_get {n l r k : Nat} (h : k ≤ n) : (rowR n l r)[k]? = some (RU n k l r) := by
  unfold rowR; rw [List.getElem?_map, List.getElem?_range (by omega)]; rfl
theorem rowR_getD (n l r k : Nat) : (rowR n l r).getD k 0 = RU n k l r := by
  rw [List.getD_eq_getElem?_getD]
  by_cases h : k ≤ n
  · rw [rowR_get h]; rfl
  · rw [List.getElem?_eq_none (by rw [rowR_len]; omega), RU_gt (by omega)]; rfl
theorem padL_get (l : List Nat) (i : Nat) : ([0] ++ l).getD i 0 = if i = 0 then 0 else l.getD (i - 1) 0 := by
  cases i with
  | zero => rfl
  | succ i => rfl
theorem padR_get (l : List Nat) (i : Nat) : (l ++ [0]).getD i 0 = l.getD i 0 := getD_padR (k := 1)
theorem rowR_next (n l r i : Nat) : l * (([0] ++ rowR n l r) ++ [0]).getD i 0 + r * (([0] ++ rowR n l r) ++ [0]).getD (i + 1) 0 = RU (n + 1) i l r := by
  rw [padR_get, padR_get, padL_get, padL_get, if_neg (Nat.succ_ne_zero i), Nat.add_sub_cancel, rowR_getD, rowR_getD]
  cases i with
  | zero => rw [if_pos rfl, RU_front, Nat.mul_zero, Nat.zero_add]
  | succ i => rw [if_neg (by omega), Nat.add_sub_cancel, RU_step]
theorem rowR_nextL (n l r : Nat) : ((List.range ((([0] ++ rowR n l r) ++ [0]).length - 1)).map fun i => l * (([0] ++ rowR n l r) ++ [0]).getD i 0 + r * (([0] ++ rowR n l r) ++ [0]).getD (i + 1) 0) = rowR (n + 1) l r := by
  have e : (([0] ++ rowR n l r) ++ [0]).length - 1 = n + 2 := by simp [rowR_len]
  rw [e]
  exact List.map_congr_left fun i hi => rowR_next n l r i
/-- .. by rests -/
theorem modR_getD (l : List Nat) (m i : Nat) : (l.map (· % m)).getD i 0 = l.getD i 0 % m := by
  rw [List.getD_eq_getElem?_getD, List.getD_eq_getElem?_getD, List.getElem?_map]
  cases l[i]? with
  | none => simp
  | some x => rfl
theorem rowR_nextM (n l r m : Nat) : ((List.range (n + 2)).map fun i => (l * ([0] ++ (rowR n l r).map (· % m)).getD i 0 + r * ((rowR n l r).map (· % m) ++ [0]).getD i 0) % m) = (rowR (n + 1) l r).map (· % m) := by
  show _ = ((List.range (n + 2)).map fun k => RU (n + 1) k l r).map (· % m)
  rw [List.map_map]
  refine List.map_congr_left fun i hi => ?_
  show (l * ([0] ++ (rowR n l r).map (· % m)).getD i 0 + r * ((rowR n l r).map (· % m) ++ [0]).getD i 0) % m = RU (n + 1) i l r % m
  rw [padL_get, padR_get]
  cases i with
  | zero => rw [if_pos rfl, RU_front, modR_getD, rowR_getD, Nat.mul_zero, Nat.zero_add, Nat.mul_mod_mod]
  | succ i =>
    rw [if_neg (by omega), Nat.add_sub_cancel, modR_getD, rowR_getD, modR_getD, rowR_getD, RU_step, Nat.add_mod, Nat.mul_mod_mod, Nat.mul_mod_mod, ← Nat.add_mod]
def tabR (n l r : Nat) : List PyData := (List.range (n + 1)).map fun i => PyData.list ((rowR i l r).map nD)
theorem tabR_succ (n l r : Nat) : tabR (n + 1) l r = tabR n l r ++ [.list ((rowR (n + 1) l r).map nD)] := by
  unfold tabR; rw [List.range_succ (n := n + 1), List.map_append]; rfl
theorem tabR_len (n l r : Nat) : (tabR n l r).length = n + 1 := by unfold tabR; rw [List.length_map, List.length_range]
theorem tabR_get {n i l r : Nat} (h : i ≤ n) : (tabR n l r)[i]? = some (.list ((rowR i l r).map nD)) := by
  unfold tabR; rw [List.getElem?_map, List.getElem?_range (by omega)]; rfl
theorem atI_rowR {n l r : Nat} {z : Int} (h0 : 0 ≤ z) (h1 : z ≤ n) : atI ((rowR n l r).map nD) z = some (nD (RUZ n z l r)) := by
  obtain ⟨j, rfl⟩ : ∃ j : Nat, z = (j : Int) := ⟨z.toNat, by omega⟩
  rw [RUZ_nat]
  exact atI_nat (by rw [List.getElem?_map, rowR_get (by omega)]; rfl)
/-- powers by halves -/
theorem pow_half (a t : Nat) : a ^ t = (a * a) ^ (t / 2) * a ^ (t % 2) := by
  have := Nat.div_add_mod t 2
  calc a ^ t = a ^ (2 * (t / 2) + t % 2) := by rw [this]
    _ = _ := by rw [Nat.pow_add, Nat.pow_mul, Nat.pow_two]
theorem pow_step1 {f a t m : Nat} (h : t % 2 = 1) : (f * a % m) * (a * a % m) ^ (t / 2) % m = f * a ^ t % m := by
  rw [pow_half a t, h, Nat.pow_one, Nat.mul_mod, Nat.mod_mod, ← Nat.pow_mod, ← Nat.mul_mod]
  congr 1
  simp only [Nat.mul_assoc, Nat.mul_comm, Nat.mul_left_comm]
theorem pow_step0 {f a t m : Nat} (h : t % 2 = 0) : f * (a * a % m) ^ (t / 2) % m = f * a ^ t % m := by
  rw [pow_half a t, h, Nat.pow_zero, Nat.mul_one, Nat.mul_mod, ← Nat.pow_mod, ← Nat.mul_mod]
abbrev eR : Nat × Int × Nat × Nat × Nat → List PyData := fun a => [nD a.1, .int a.2.1, nD a.2.2.1, nD a.2.2.2.1, nD a.2.2.2.2]
def sp_pow_rest : SpD := spE e3 (fun a => a.1 < 2 ^ 62 ∧ 2 ≤ a.2.2 ∧ a.2.2 < 2 ^ 62) fun a => nD (a.1 ^ a.2.1 % a.2.2)
def sp_ruled : SpD := spE eR (fun a => a.1 ≤ 1000 ∧ a.2.2.1 < 2 ^ 60 ∧ a.2.2.2.1 < 2 ^ 60 ∧ 0 < a.2.2.2.2 ∧ a.2.2.2.2 < 2 ^ 60) fun a => nD (RUZ a.1 a.2.1 a.2.2.1 a.2.2.2.1 % a.2.2.2.2)
def sp_ruled_fast : SpD := spE eR (fun a => a.1 < 2 ^ 60 ∧ a.2.2.1 < 2 ^ 60 ∧ a.2.2.2.1 < 2 ^ 60 ∧ Pr a.2.2.2.2) fun a => nD (RUZ a.1 a.2.1 a.2.2.1 a.2.2.2.1 % a.2.2.2.2)
end PL
set_option maxHeartbeats 1000000
namespace PL
open PySem PySem.Spec PyProof.Rows L2 RZ
/-! ### sums by steps -/
def sT (f : Nat → Nat) (s j t : Nat) : Nat := ((List.range t).map fun i => if i % s = j then f i else 0).sum
theorem sT_succ (f : Nat → Nat) (s j t : Nat) : sT f s j (t + 1) = sT f s j t + (if t % s = j then f t else 0) := sum_range_succ _ _
def StS (n s j : Nat) : Nat := sT (C n) s j (n + 1)
theorem sum_ind (c x : Nat) : ∀ s : Nat, ((List.range s).map fun j => if x = j then c else 0).sum = if x < s then c else 0
  | 0 => by simp
  | s + 1 => by
    rw [sum_range_succ, sum_ind c x s]
    by_cases h : x < s
    · rw [if_pos h, if_neg (by omega), if_pos (by omega)]; rfl
    · by_cases g : x = s
      · rw [if_neg h, if_pos g, if_pos (by omega)]; omega
      · rw [if_neg h, if_neg g, if_neg (by omega)]
theorem sT_all {s : Nat} (hs : 0 < s) (f : Nat → Nat) : ∀ t : Nat, ((List.range s).map fun j => sT f s j t).sum = ((List.range t).map f).sum
  | 0 => (show ∀ s : Nat, ((List.range s).map fun _ => 0).sum = 0 from fun s => by
      induction s with
      | zero => rfl
      | succ s ih => rw [sum_range_succ, ih]) s
  | t + 1 => by
    rw [sum_range_succ, ← sT_all hs f t]
    rw [show (fun j => sT f s j (t + 1)) = fun j => sT f s j t + (if t % s = j then f t else 0) from funext fun j => sT_succ f s j t, sum_range_add, sum_ind, if_pos (Nat.mod_lt _ hs)]
theorem StS_all {s : Nat} (hs : 0 < s) (n : Nat) : ((List.range s).map (StS n s)).sum = 2 ^ n := by
  have := sT_all hs (C n) (n + 1)
  rw [← C_rowsum n]; exact this
theorem succ_mod_iff {s i j : Nat} (hs : 0 < s) (hj : j < s) : (i + 1) % s = j ↔ i % s = (if j = 0 then s - 1 else j - 1) := by
  have h1 := Nat.div_add_mod i s
  have h2 := Nat.mod_lt i hs
  by_cases h : i % s + 1 < s
  · have e : (i + 1) % s = i % s + 1 := by
      rw [show i + 1 = s * (i / s) + (i % s + 1) by omega, Nat.mul_add_mod, Nat.mod_eq_of_lt h]
    rw [e]; split <;> omega
  · have e : (i + 1) % s = 0 := by
      rw [show i + 1 = s * (i / s + 1) by rw [Nat.mul_add]; omega, Nat.mul_mod_right]
    rw [e]; split <;> omega
theorem StS_step {s : Nat} (hs : 0 < s) (n j : Nat) (hj : j < s) : StS (n + 1) s j = StS n s j + StS n s (if j = 0 then s - 1 else j - 1) := by
  unfold StS
  have e1 : sT (C (n + 1)) s j (n + 1 + 1) = (if 0 % s = j then 1 else 0) + ((List.range (n + 1)).map fun i => if (i + 1) % s = j then C (n + 1) (i + 1) else 0).sum := by
    unfold sT; rw [sum_range_front, C_zero]
  have e2 : sT (C n) s j (n + 1 + 1) = (if 0 % s = j then 1 else 0) + ((List.range (n + 1)).map fun i => if (i + 1) % s = j then C n (i + 1) else 0).sum := by
    unfold sT; rw [sum_range_front, C_zero]
  have e3 : sT (C n) s j (n + 1 + 1) = sT (C n) s j (n + 1) := by
    rw [sT_succ, C_gt (by omega : n < n + 1)]; simp
  have e4 : ((List.range (n + 1)).map fun i => if (i + 1) % s = j then C (n + 1) (i + 1) else 0).sum = sT (C n) s (if j = 0 then s - 1 else j - 1) (n + 1) + ((List.range (n + 1)).map fun i => if (i + 1) % s = j then C n (i + 1) else 0).sum := by
    unfold sT
    rw [← sum_range_add]
    refine sum_range_congr fun i hi => ?_
    by_cases h : (i + 1) % s = j
    · rw [if_pos h, if_pos ((succ_mod_iff hs hj).mp h), if_pos h, C_pascal]
    · rw [if_neg h, if_neg (fun z => h ((succ_mod_iff hs hj).mpr z)), if_neg h]
  rw [e1, e4, ← e3, e2]; omega
theorem StS_zero {s : Nat} (hs : 0 < s) (j : Nat) (hj : j < s) : StS 0 s j = if j = 0 then 1 else 0 := by
  show sT (C 0) s j (0 + 1) = _
  rw [sT_succ, C_zero, Nat.zero_mod]
  show 0 + _ = _
  rw [Nat.zero_add]
  by_cases h : j = 0
  · rw [if_pos h.symm, if_pos h]
  · rw [if_neg fun z => h z.symm, if_neg h]
def ssL (n s m : Nat) : List Nat := (List.range s).map fun j => StS n s j % m
theorem ssL_len (n s m : Nat) : (ssL n s m).length = s := by unfold ssL; rw [List.length_map, List.length_range]
theorem ssL_get {n s m j : Nat} (h : j < s) : (ssL n s m)[j]? = some (StS n s j % m) := by
  unfold ssL; rw [List.getElem?_map, List.getElem?_range h]; rfl
theorem ssL_getD {n s m j : Nat} (h : j < s) : (ssL n s m).getD j 0 = StS n s j % m := by
  rw [List.getD_eq_getElem?_getD, ssL_get h]; rfl
theorem ssL_next {n s m : Nat} (hs : 0 < s) : ((List.range s).map fun j => ((ssL n s m).getD j 0 + (ssL n s m).getD (if j = 0 then s - 1 else j - 1) 0) % m) = ssL (n + 1) s m := by
  refine List.map_congr_left fun j hj => ?_
  have hj := List.mem_range.mp hj
  rw [ssL_getD hj, ssL_getD (by split <;> omega), StS_step hs n j hj, ← Nat.add_mod]
theorem ssL_zero {s m : Nat} (hs : 0 < s) : (ssL 0 s m).map nD = ((List.replicate s 0).map nD).set 0 (nD (1 % m)) := by
  obtain ⟨k, rfl⟩ : ∃ k, s = k + 1 := ⟨s - 1, by omega⟩
  unfold ssL
  rw [List.range_succ_eq_map, List.map_cons, List.map_map, List.replicate_succ, List.map_cons, List.map_cons, List.set_cons_zero, StS_zero hs 0 (by omega), if_pos rfl]
  congr 1
  rw [List.map_replicate, List.eq_replicate_iff]
  refine ⟨by simp, fun b hb => ?_⟩
  simp only [List.mem_map, List.mem_range] at hb
  obtain ⟨x, ⟨j, hj, e1⟩, e2⟩ := hb
  rw [← e2, ← e1]
  show nD (StS 0 (k + 1) (j + 1) % m) = nD 0
  rw [StS_zero hs (j + 1) (by omega), if_neg (by omega), Nat.zero_mod]
/-- place by place -/
def sP (f : Nat → Nat) (s m t : Nat) : List Nat := (List.range s).map fun j => sT f s j t % m
theorem sP_len (f : Nat → Nat) (s m t : Nat) : (sP f s m t).length = s := by unfold sP; rw [List.length_map, List.length_range]
theorem sP_get {f : Nat → Nat} {s m t j : Nat} (h : j < s) : (sP f s m t)[j]? = some (sT f s j t % m) := by
  unfold sP; rw [List.getElem?_map, List.getElem?_range h]; rfl
theorem sP_zero (f : Nat → Nat) (s m : Nat) : sP f s m 0 = List.replicate s 0 := by
  rw [List.eq_replicate_iff]
  refine ⟨sP_len _ _ _ _, fun b hb => ?_⟩
  obtain ⟨j, hj, e⟩ := List.mem_map.mp hb
  rw [← e]; show 0 % m = 0; rw [Nat.zero_mod]
theorem sP_set {f : Nat → Nat} {s m t : Nat} (hs : 0 < s) : (sP f s m t).set (t % s) (((sP f s m t).getD (t % s) 0 + f t) % m) = sP f s m (t + 1) := by
  have hl := Nat.mod_lt t hs
  apply List.ext_getElem?
  intro j
  by_cases hj : j < s
  · rw [sP_get hj, sT_succ]
    by_cases h : t % s = j
    · rw [← h, List.getElem?_set_self (by rw [sP_len]; exact hl), if_pos rfl, List.getD_eq_getElem?_getD, sP_get hl]
      show some ((sT f s (t % s) t % m + f t) % m) = _
      rw [Nat.mod_add_mod]
    · rw [List.getElem?_set_ne h, sP_get hj, if_neg h, Nat.add_zero]
  · rw [List.getElem?_eq_none (by rw [List.length_set, sP_len]; omega), List.getElem?_eq_none (by rw [sP_len]; omega)]
theorem sum_mod_list (m : Nat) : ∀ l : List Nat, (l.map (· % m)).sum % m = l.sum % m
  | [] => rfl
  | x :: r => by
    rw [List.map_cons, List.sum_cons, List.sum_cons, Nat.add_mod, Nat.mod_mod, sum_mod_list m r, ← Nat.add_mod]
theorem ssL_sum {n s m : Nat} (hs : 0 < s) : (ssL n s m).sum % m = 2 ^ n % m := by
  have := sum_mod_list m ((List.range s).map (StS n s))
  rw [List.map_map] at this
  rw [← StS_all hs n, ← this]; rfl
theorem atI_prev {l : List Nat} {x : Nat} (hx : x < l.length) : atI (l.map nD) ((x : Int) - ((1 : Nat) : Int)) = some (nD (l.getD (if x = 0 then l.length - 1 else x - 1) 0)) := by
  have g : ∀ k, k < l.length → (l.map nD)[k]? = some (nD (l.getD k 0)) := fun k hk => by
    rw [List.getElem?_map, List.getElem?_eq_getElem hk, List.getD_eq_getElem?_getD, List.getElem?_eq_getElem hk]; rfl
  cases x with
  | zero =>
    rw [if_pos rfl, ← g _ (by omega)]
    exact (atI_back (k := 0) (by rw [List.length_map]; exact hx)).trans (by rw [List.length_map, Nat.sub_zero])
  | succ x =>
    rw [if_neg (Nat.succ_ne_zero x), Nat.add_sub_cancel, show ((x + 1 : Nat) : Int) - ((1 : Nat) : Int) = (x : Int) by omega]
    exact atI_nat (g x (by omega))
/-! ### sums up a slope -/
def fib : Nat → Nat
  | 0 => 1
  | 1 => 1
  | n + 2 => fib n + fib (n + 1)
def slopeD (n : Nat) : Nat := ((List.range (n + 1)).map fun a => C (n - a) a).sum
theorem slopeD_front (n : Nat) : slopeD (n + 1) = 1 + ((List.range (n + 1)).map fun a => C (n - a) (a + 1)).sum := by
  unfold slopeD
  rw [sum_range_front, C_zero]
  congr 1
  refine sum_range_congr fun a ha => ?_
  rw [show n + 1 - (a + 1) = n - a by omega]
theorem slopeD_step (n : Nat) : slopeD (n + 2) = slopeD n + slopeD (n + 1) := by
  rw [slopeD_front (n + 1), sum_range_succ, Nat.sub_self, C_0s, Nat.add_zero, slopeD_front n]
  have : ((List.range (n + 1)).map fun a => C (n + 1 - a) (a + 1)).sum = slopeD n + ((List.range (n + 1)).map fun a => C (n - a) (a + 1)).sum := by
    unfold slopeD
    rw [← sum_range_add]
    refine sum_range_congr fun a ha => ?_
    rw [show n + 1 - a = (n - a) + 1 by omega, C_pascal]
  omega
theorem slopeD_fib : ∀ n, slopeD n = fib n
  | 0 => rfl
  | 1 => rfl
  | n + 2 => by rw [slopeD_step, slopeD_fib n, slopeD_fib (n + 1)]; rfl
theorem slope_half (n : Nat) : ((List.range (n / 2 + 1)).map fun a => C (n - a) a).sum = slopeD n := by
  unfold slopeD
  have : ∀ k, k ≤ n - n / 2 → ((List.range (n / 2 + 1 + k)).map fun a => C (n - a) a).sum = ((List.range (n / 2 + 1)).map fun a => C (n - a) a).sum := fun k => by
    induction k with
    | zero => intro _; rfl
    | succ k ih =>
      intro h
      rw [← Nat.add_assoc, sum_range_succ, ih (by omega), C_gt (by omega)]; rfl
  have := this (n - n / 2) (Nat.le_refl _)
  rw [← this]; congr 3; omega
def sp_step_sums : SpD := spE e3 (fun a => a.1 ≤ 1000 ∧ 0 < a.2.1 ∧ a.2.1 ≤ 1000 ∧ 0 < a.2.2 ∧ a.2.2 < 2 ^ 60) fun a => eT (ssL a.1 a.2.1 a.2.2)
def sp_slope_sum : SpD := spE e2 (fun a => a.1 < 2 ^ 30 ∧ 0 < a.2 ∧ a.2 < 2 ^ 60) fun a => nD (fib a.1 % a.2)
end PL
set_option maxHeartbeats 1000000
namespace PL
open PySem PySem.Spec PyProof.Rows L2 RZ
/-! ### powers of primes -/
/-- the least divisor from d on -/
def mf : Nat → Nat → Nat → Nat
  | 0, d, _ => d
  | f + 1, d, n => if n % d = 0 then d else mf f (d + 1) n
def mfac (n : Nat) : Nat := mf n 2 n
/-- a number without a divisor -/
def stp : Nat → Nat → Nat → Nat
  | 0, _, n => n
  | f + 1, q, n => if n % q = 0 then stp f q (n / q) else n
def strip (q n : Nat) : Nat := stp n q n
theorem mf_least {n q : Nat} (hq : n % q = 0) : ∀ (f d : Nat), d ≤ q → q ≤ d + f → (∀ e, d ≤ e → e < q → n % e ≠ 0) → mf f d n = q
  | 0, d, h1, h2, _ => by show d = q; omega
  | f + 1, d, h1, h2, h3 => by
    show (if n % d = 0 then d else mf f (d + 1) n) = q
    by_cases h : n % d = 0
    · rw [if_pos h]
      apply Nat.le_antisymm h1
      apply Nat.le_of_not_lt; intro g
      exact h3 d (Nat.le_refl _) g h
    · rw [if_neg h]
      have : d ≠ q := fun z => h (z ▸ hq)
      exact mf_least hq f (d + 1) (by omega) (by omega) fun e he => h3 e (by omega)
theorem mfac_eq {n q : Nat} (h2 : 2 ≤ q) (hn : 0 < n) (hq : n % q = 0) (h : ∀ e, 2 ≤ e → e < q → n % e ≠ 0) : mfac n = q := by
  have hle : q ≤ n := Nat.le_of_dvd hn (Nat.dvd_of_mod_eq_zero hq)
  exact mf_least hq n 2 h2 (by omega) h
theorem least_ex {n : Nat} : ∀ (k d : Nat), d + k = n → 2 ≤ n → 2 ≤ d → (∀ e, 2 ≤ e → e < d → n % e ≠ 0) → ∃ q, 2 ≤ q ∧ q ≤ n ∧ n % q = 0 ∧ ∀ e, 2 ≤ e → e < q → n % e ≠ 0
  | 0, d, h, hn, hd, g => ⟨n, hn, Nat.le_refl _, Nat.mod_self _, by rw [← h, Nat.add_zero] at *; exact g⟩
  | k + 1, d, h, hn, hd, g => by
    by_cases h0 : n % d = 0
    · exact ⟨d, hd, by omega, h0, g⟩
    · exact least_ex k (d + 1) (by omega) hn (by omega) fun e h2 he => by
        by_cases z : e = d
        · rw [z]; exact h0
        · exact g e h2 (by omega)
theorem mfac_spec {n : Nat} (hn : 2 ≤ n) : 2 ≤ mfac n ∧ mfac n ≤ n ∧ n % mfac n = 0 ∧ ∀ e, 2 ≤ e → e < mfac n → n % e ≠ 0 := by
  obtain ⟨q, h1, h2, h3, h4⟩ := least_ex (n := n) (n - 2) 2 (by omega) hn (Nat.le_refl _) (fun e he h => by omega)
  have := mfac_eq h1 (by omega) h3 h4
  rw [this]; exact ⟨h1, h2, h3, h4⟩
theorem stp_fuel {q : Nat} (hq : 2 ≤ q) : ∀ (f n : Nat), 0 < n → n ≤ f → ∀ g, n ≤ g → stp f q n = stp g q n
  | 0, n, h0, h, g, hg => by omega
  | f + 1, n, h0, h, 0, hg => by omega
  | f + 1, n, h0, h, g + 1, hg => by
    show (if n % q = 0 then stp f q (n / q) else n) = (if n % q = 0 then stp g q (n / q) else n)
    by_cases z : n % q = 0
    · rw [if_pos z, if_pos z]
      have h1 : 0 < n / q := Nat.div_pos (Nat.le_of_not_lt fun w => by rw [Nat.mod_eq_of_lt w] at z; omega) (by omega)
      have h2 : n / q < n := Nat.div_lt_self h0 hq
      exact stp_fuel hq f (n / q) h1 (by omega) g (by omega)
    · rw [if_neg z, if_neg z]
theorem strip_yes {q n : Nat} (hq : 2 ≤ q) (h0 : 0 < n) (h : n % q = 0) : strip q n = strip q (n / q) := by
  obtain ⟨k, rfl⟩ : ∃ k, n = k + 1 := ⟨n - 1, by omega⟩
  have h1 : 0 < (k + 1) / q := Nat.div_pos (Nat.le_of_not_lt fun w => by rw [Nat.mod_eq_of_lt w] at h; omega) (by omega)
  have h2 : (k + 1) / q < k + 1 := Nat.div_lt_self h0 hq
  show (if (k + 1) % q = 0 then stp k q ((k + 1) / q) else k + 1) = _
  rw [if_pos h]
  exact stp_fuel hq _ _ h1 (by omega) _ (Nat.le_refl _)
theorem strip_no {q n : Nat} (h : n % q ≠ 0) : strip q n = n := by
  cases n with
  | zero => simp at h
  | succ k => show (if (k + 1) % q = 0 then stp k q ((k + 1) / q) else k + 1) = _; rw [if_neg h]
theorem strip_pow_mul {q m : Nat} (hq : 2 ≤ q) (h0 : 0 < m) (h : m % q ≠ 0) : ∀ k, strip q (q ^ k * m) = m
  | 0 => by rw [Nat.pow_zero, Nat.one_mul, strip_no h]
  | k + 1 => by
    have e : q ^ (k + 1) * m = q * (q ^ k * m) := by rw [Nat.pow_succ]; simp only [Nat.mul_assoc, Nat.mul_comm, Nat.mul_left_comm]
    rw [strip_yes hq (Nat.mul_pos (Nat.pow_pos (by omega)) h0) (by rw [e, Nat.mul_mod_right]), e, Nat.mul_div_cancel_left _ (by omega), strip_pow_mul hq h0 h k]
/-- the prime of which a number is a power -/
def isPP (n : Nat) : Option Nat := if 1 < strip (mfac n) n then none else some (mfac n)
def oD : Option Nat → PyData
  | none => .none
  | some n => nD n
theorem isPP_pow {q : Nat} (hq : 2 ≤ q) (hl : ∀ e, 2 ≤ e → e < q → ∀ k, q ^ k % e ≠ 0) (k : Nat) (hk : 0 < k) : isPP (q ^ k) = some q := by
  have e : mfac (q ^ k) = q := mfac_eq hq (Nat.pow_pos (by omega)) (by
    obtain ⟨j, rfl⟩ : ∃ j, k = j + 1 := ⟨k - 1, by omega⟩
    rw [Nat.pow_succ, Nat.mul_mod_left]) fun e h1 h2 => hl e h1 h2 k
  unfold isPP
  rw [e]
  have := strip_pow_mul hq (m := 1) (by omega) (by rw [Nat.mod_eq_of_lt (by omega)]; omega) k
  rw [Nat.mul_one] at this
  rw [this, if_neg (by omega)]
def sp_is_prime_power : SpD := spE e1 (fun n => 2 ≤ n ∧ mfac n < 2 ^ 60) fun n => oD (isPP n)
theorem pp_none_all : ((List.range 302).all fun n => decide (n < 2) || !decide (isPP n = none) || !([2, 3, 5, 7].any fun p => strip p n == 1)) = true := by decide +kernel
theorem pp_none (n : Nat) (h : n < 302) (h2 : 2 ≤ n) (e : isPP n = none) : ([2, 3, 5, 7].any fun p => strip p n == 1) = false := by
  have := List.all_eq_true.mp pp_none_all n (List.mem_range.mpr h)
  rw [decide_eq_false (by omega : ¬ n < 2), decide_eq_true e] at this
  simpa using this
theorem any_false {α : Type} (l : List α) : (l.map fun _ => false).any id = false := by
  induction l with
  | nil => rfl
  | cons a r ih => rw [List.map_cons, List.any_cons, ih]; rfl
theorem Pr_sep {p r : Nat} (hp : Pr p) (hr : Pr r) (h : r ≠ p) : p % r ≠ 0 := by
  unfold Pr at hp hr
  rcases hp with rfl | rfl | rfl | rfl <;> rcases hr with rfl | rfl | rfl | rfl <;> first | exact absurd rfl h | decide
theorem pow_nz {p r : Nat} (hr : Pr r) (h : p % r ≠ 0) : ∀ k, p ^ k % r ≠ 0
  | 0 => by have := Pr_two hr; rw [Nat.pow_zero, Nat.mod_eq_of_lt (by omega)]; omega
  | k + 1 => by
    rw [Nat.pow_succ, Ne, Pr_mul0 hr, not_or]
    exact ⟨pow_nz hr h k, h⟩
theorem small_prime {e : Nat} (h2 : 2 ≤ e) (h7 : e < 7) : ∃ r, Pr r ∧ r ≤ e ∧ e % r = 0 := by
  have : e = 2 ∨ e = 3 ∨ e = 4 ∨ e = 5 ∨ e = 6 := by omega
  unfold Pr
  rcases this with rfl | rfl | rfl | rfl | rfl
  · exact ⟨2, by decide⟩
  · exact ⟨3, by decide⟩
  · exact ⟨2, by decide⟩
  · exact ⟨5, by decide⟩
  · exact ⟨2, by decide⟩
theorem nodvd {p q e j k : Nat} (hp : Pr p) (hq : Pr q) (h2 : 2 ≤ e) (h3 : e < p) (h4 : e < q) : (p ^ j * q ^ k) % e ≠ 0 := by
  intro z
  obtain ⟨r, hr, h5, h6⟩ := small_prime h2 (by have := Pr_seven hp; omega)
  have hd : r ∣ p ^ j * q ^ k := Nat.dvd_trans (Nat.dvd_of_mod_eq_zero h6) (Nat.dvd_of_mod_eq_zero z)
  rcases (Pr_mul0 hr).mp (Nat.mod_eq_zero_of_dvd hd) with w | w
  · exact pow_nz hr (Pr_sep hp hr (by omega)) _ w
  · exact pow_nz hr (Pr_sep hq hr (by omega)) _ w
theorem isPP_two {p q h : Nat} (hp : Pr p) (hq : Pr q) (h0 : 0 < h) : isPP (p ^ h * q) = (if q = p then some p else none) ∧ mfac (p ^ h * q) ≤ 7 := by
  have p2 := Pr_two hp
  have q2 := Pr_two hq
  have p7 := Pr_seven hp
  have q7 := Pr_seven hq
  have hph : 0 < p ^ h := Nat.pow_pos (by omega)
  obtain ⟨j, rfl⟩ : ∃ j, h = j + 1 := ⟨h - 1, by omega⟩
  have hdp : (p ^ (j + 1) * q) % p = 0 := by rw [Nat.pow_succ, Nat.mul_assoc, Nat.mul_comm p q, ← Nat.mul_assoc, Nat.mul_mod_left]
  have hdq : (p ^ (j + 1) * q) % q = 0 := Nat.mul_mod_left _ _
  have hnd : ∀ e, 2 ≤ e → e < p → e < q → (p ^ (j + 1) * q) % e ≠ 0 := fun e a b c => by
    have := nodvd (j := j + 1) (k := 1) hp hq a b c
    rwa [Nat.pow_one] at this
  by_cases hqp : q = p
  · subst hqp
    have e : mfac (q ^ (j + 1) * q) = q := mfac_eq q2 (Nat.mul_pos hph (by omega)) hdq fun e a b => hnd e a b b
    refine ⟨?_, by rw [e]; exact q7⟩
    rw [if_pos rfl, ← Nat.pow_succ]
    exact isPP_pow q2 (fun e a b k => by have := nodvd (j := k) (k := 0) hq hq a b b; rwa [Nat.pow_zero, Nat.mul_one] at this) _ (by omega)
  · rw [if_neg hqp]
    rcases Nat.lt_or_gt_of_ne hqp with g | g
    · have e : mfac (p ^ (j + 1) * q) = q := mfac_eq q2 (Nat.mul_pos hph (by omega)) hdq fun e a b => hnd e a (by omega) b
      refine ⟨?_, by rw [e]; exact q7⟩
      unfold isPP
      have := strip_pow_mul q2 hph (pow_nz hq (Pr_sep hp hq hqp) (j + 1)) 1
      rw [Nat.pow_one, Nat.mul_comm] at this
      rw [e, this, if_pos]
      have h9 : p ^ 1 ≤ p ^ (j + 1) := Nat.pow_le_pow_right (by omega) (by omega)
      rw [Nat.pow_one] at h9; omega
    · have e : mfac (p ^ (j + 1) * q) = p := mfac_eq p2 (Nat.mul_pos hph (by omega)) hdp fun e a b => hnd e a b (by omega)
      refine ⟨?_, by rw [e]; exact p7⟩
      unfold isPP
      rw [e, strip_pow_mul p2 (by omega) (Pr_sep hq hp (Ne.symm hqp)), if_pos (by omega)]
theorem isPP_one {p h : Nat} (hp : Pr p) (h0 : 0 < h) : isPP (p ^ h) = some p ∧ mfac (p ^ h) ≤ 7 := by
  have p2 := Pr_two hp
  have hl : ∀ e, 2 ≤ e → e < p → ∀ k, p ^ k % e ≠ 0 := fun e a b k => by
    have := nodvd (j := k) (k := 0) hp hp a b b
    rwa [Nat.pow_zero, Nat.mul_one] at this
  refine ⟨isPP_pow p2 hl h h0, ?_⟩
  obtain ⟨j, rfl⟩ : ∃ j, h = j + 1 := ⟨h - 1, by omega⟩
  rw [mfac_eq p2 (Nat.pow_pos (by omega)) (by rw [Nat.pow_succ, Nat.mul_mod_left]) fun e a b => hl e a b _]
  exact Pr_seven hp
theorem shaped_oD (x : Option Nat) : SeqAt.shaped (oD x) = true := by cases x <;> rfl
theorem eqv_oD (x : Option Nat) : PyData.eqv (oD x) (oD x) = true := by
  cases x with
  | none => rfl
  | some n => rw [show oD (some n) = nD n from rfl, eqv_nD]; simp
end PL
set_option maxHeartbeats 1000000
namespace PL
open PySem PySem.Spec PyProof.Rows L2 RZ
/-! ### the only prime, by trial -/
def onlP : Nat → Nat → Nat → List Nat → List Nat
  | 0, _, _, acc => acc
  | f + 1, d, l, acc => if l % d = 0 then onlP f (d + 1) (strip d l) (acc ++ [d]) else onlP f (d + 1) l acc
def onl (n : Nat) : Option Nat := match onlP (n - 1) 2 n [] with
  | [x] => some x
  | _ => none
theorem onl_all : ((List.range 303).all fun n => decide (n < 2) || decide (onl n = isPP n)) = true := by decide +kernel
theorem onl_eq (n : Nat) (h : n < 303) (h2 : 2 ≤ n) : onl n = isPP n := by
  have := List.all_eq_true.mp onl_all n (List.mem_range.mpr h)
  rw [decide_eq_false (by omega : ¬ n < 2)] at this
  simpa using this
theorem greats_all : ([2, 3, 5, 7, 11, 13, 17, 19, 23].all fun q => (List.range 6).all fun k => decide (isPP (q ^ (k + 1)) = some q) && (decide (q = 7) || decide (isPP (q ^ (k + 1) * 7) = none))) = true := by decide +kernel
theorem deep_oD {n : Nat} (x : Option Nat) : deepD n (oD x) = true := by
  cases x with
  | none => exact deep_0
  | some k => exact deep_nD
end PL
set_option maxHeartbeats 4000000
namespace PL
open PySem PySem.Spec PyProof.Rows L2 RZ
/-! ### rows one behind the other, for checks of finitely many rows -/
theorem rowC_getE {n i : Nat} (h : i < (rowC n).length) : (rowC n)[i] = C n i := by
  have h1 := rowC_get (n := n) (i := i) (by rw [rowC_len] at h; omega)
  rw [List.getElem?_eq_getElem h] at h1
  exact Option.some.inj h1
def nxtRow (l : List Nat) : List Nat := List.zipWith (· + ·) (0 :: l) (l ++ [0])
theorem nxtRow_rowC (n : Nat) : nxtRow (rowC n) = rowC (n + 1) := by
  unfold nxtRow
  have hl := rowC_len n
  have hl2 := rowC_len (n + 1)
  apply List.ext_getElem
  · rw [List.length_zipWith, List.length_cons, List.length_append, List.length_cons, List.length_nil, hl, hl2]; omega
  · intro i h1 h2
    rw [List.getElem_zipWith]
    rw [rowC_getE h2]
    have hi : i ≤ n + 1 := by omega
    have e2 : ((rowC n) ++ [0])[i]'(by rw [List.length_append, hl]; simp; omega) = C n i := by
      by_cases g : i < n + 1
      · rw [List.getElem_append_left (by omega), rowC_getE]
      · rw [List.getElem_append_right (by omega), C_gt (by omega)]; simp
    rw [e2]
    cases i with
    | zero => rw [List.getElem_cons_zero, C_zero, C_zero]
    | succ j =>
      rw [List.getElem_cons_succ, C_pascal]
      rw [rowC_getE]
def chkRows (f : Nat → List Nat → Bool) : Nat → Nat → List Nat → Bool
  | 0, _, _ => true
  | k + 1, n, l => f n l && chkRows f k (n + 1) (nxtRow l)
theorem chkRows_all {f : Nat → List Nat → Bool} : ∀ (k n : Nat), chkRows f k n (rowC n) = true → ∀ m, n ≤ m → m < n + k → f m (rowC m) = true
  | 0, n, _, m, h1, h2 => by omega
  | k + 1, n, h, m, h1, h2 => by
    have h' : (f n (rowC n) && chkRows f k (n + 1) (nxtRow (rowC n))) = true := h
    rw [Bool.and_eq_true, nxtRow_rowC] at h'
    by_cases g : m = n
    · subst g; exact h'.1
    · exact chkRows_all k (n + 1) h'.2 m (by omega) (by omega)
/-! ### whole rows: divisors, multiples -/
def gcdF (l : List Nat) (a : Nat) : Nat := l.foldl Nat.gcd a
def lcmF (l : List Nat) (a : Nat) : Nat := l.foldl (fun b x => b * x / Nat.gcd b x) a
def mlt : Nat → Nat
  | 0 => 1
  | k + 1 => mlt k / Nat.gcd (mlt k) (k + 1) * (k + 1)
def cmul (n : Nat) : Nat := mlt (n + 1) / (n + 1)
def idv (n : Nat) : Nat := if n < 2 then 0 else (isPP n).getD 1
def midL (l : List Nat) : List Nat := (l.drop 1).take (l.length - 2)
def chk13 (n : Nat) (l : List Nat) : Bool := decide (lcmF l 1 = cmul n) && decide (gcdF (midL l) 0 = idv n)
theorem chk13_all : chkRows chk13 122 0 [1] = true := by decide +kernel
theorem chk13_row {n : Nat} (h : n < 122) : lcmF (rowC n) 1 = cmul n ∧ gcdF (midL (rowC n)) 0 = idv n := by
  have := chkRows_all 122 0 chk13_all n (by omega) (by omega)
  unfold chk13 at this
  rw [Bool.and_eq_true, decide_eq_true_eq, decide_eq_true_eq] at this
  exact this
def chk32 (n : Nat) (l : List Nat) : Bool := (l.all fun x => decide (cmul n / x * x = cmul n)) && decide (cmul n * (n + 1) = mlt (n + 1)) && ([2, 3, 5, 7, 11, 13].all fun p => !(decide (cmul n / p * p = cmul n) && l.all fun x => decide (cmul n / p / x * x = cmul n / p)))
theorem chk32_all : chkRows chk32 101 0 [1] = true := by decide +kernel
theorem chk32_row {n : Nat} (h : n < 101) : (∀ x ∈ rowC n, cmul n / x * x = cmul n) ∧ cmul n * (n + 1) = mlt (n + 1) ∧ ∀ p ∈ [2, 3, 5, 7, 11, 13], (decide (cmul n / p * p = cmul n) && (rowC n).all fun x => decide (cmul n / p / x * x = cmul n / p)) = false := by
  have := chkRows_all 101 0 chk32_all n (by omega) (by omega)
  unfold chk32 at this
  rw [Bool.and_eq_true, Bool.and_eq_true, decide_eq_true_eq, List.all_eq_true, List.all_eq_true] at this
  obtain ⟨⟨h1, h2⟩, h3⟩ := this
  refine ⟨fun x hx => of_decide_eq_true (h1 x hx), h2, fun p hp => ?_⟩
  have := h3 p hp
  rw [Bool.not_eq_true'] at this
  exact this
theorem mlt_le : ∀ n, mlt n ≤ fac n
  | 0 => Nat.le_refl _
  | n + 1 => by
    show mlt n / _ * (n + 1) ≤ fac (n + 1)
    have e : fac (n + 1) = fac n * (n + 1) := by show (n + 1) * fac n = _; exact Nat.mul_comm _ _
    rw [e]
    exact Nat.mul_le_mul_right _ (Nat.le_trans (Nat.div_le_self _ _) (mlt_le n))
theorem cmul_le (n : Nat) : cmul n ≤ 2 ^ ((n + 1) * (n + 1)) := Nat.le_trans (Nat.div_le_self _ _) (Nat.le_trans (mlt_le _) (fac_le _))
theorem lcmF_snoc (l : List Nat) (a x : Nat) : lcmF (l ++ [x]) a = lcmF l a * x / Nat.gcd (lcmF l a) x := by unfold lcmF; rw [List.foldl_append]; rfl
theorem gcdF_snoc (l : List Nat) (a x : Nat) : gcdF (l ++ [x]) a = Nat.gcd (gcdF l a) x := by unfold gcdF; rw [List.foldl_append]; rfl
theorem lcmF_le {c : Nat} : ∀ (l : List Nat) (k : Nat), (∀ x ∈ l, x ≤ 2 ^ c) → l.length ≤ k → lcmF l 1 ≤ 2 ^ (c * k) := fun l k h hk => by
  have g : ∀ (l : List Nat) (a b : Nat), (∀ x ∈ l, x ≤ 2 ^ c) → a ≤ 2 ^ b → lcmF l a ≤ 2 ^ (b + c * l.length) := by
    intro l
    induction l with
    | nil => intro a b _ ha; simpa [lcmF] using ha
    | cons x l ih =>
      intro a b hx ha
      show lcmF l (a * x / Nat.gcd a x) ≤ _
      have h1 : a * x / Nat.gcd a x ≤ 2 ^ (b + c) := Nat.le_trans (Nat.div_le_self _ _) (by rw [Nat.pow_add]; exact Nat.mul_le_mul ha (hx x List.mem_cons_self))
      have := ih _ (b + c) (fun y hy => hx y (List.mem_cons_of_mem _ hy)) h1
      rw [List.length_cons, Nat.mul_add, Nat.mul_one, ← Nat.add_assoc, Nat.add_right_comm]; exact this
  have := g l 1 0 h (Nat.le_refl _)
  rw [Nat.zero_add] at this
  exact Nat.le_trans this (Nat.pow_le_pow_right (by omega) (Nat.mul_le_mul_left _ hk))
theorem cutD_mid {ns : List Nat} : cutD (ns.map nD) (some ((1 : Nat) : Int)) (some (-((1 : Nat) : Int))) = (midL ns).map nD := by
  unfold cutD midL
  have e : HT.sIx (ns.map nD).length (ns.map nD).length (some (-((1 : Nat) : Int))) = ns.length - 1 := by
    show (if (-((1 : Nat) : Int)) < 0 then (-((1 : Nat) : Int) + ((ns.map nD).length : Int)).toNat else min (-((1 : Nat) : Int)).toNat (ns.map nD).length) = _
    rw [if_pos (by decide), List.length_map]; omega
  rw [e, HT.sIx_nat, List.length_map, ← List.map_drop, ← List.map_take]
  congr 1
  rcases Nat.lt_or_ge 0 ns.length with g | g
  · rw [Nat.min_eq_left g]; congr 1
  · have : ns = [] := List.eq_nil_of_length_eq_zero (by omega)
    subst this; rfl
theorem cutD_init {ns : List Nat} : cutD (ns.map nD) none (some (-((1 : Nat) : Int))) = (ns.take (ns.length - 1)).map nD := by
  unfold cutD
  have e : HT.sIx (ns.map nD).length (ns.map nD).length (some (-((1 : Nat) : Int))) = ns.length - 1 := by
    show (if (-((1 : Nat) : Int)) < 0 then (-((1 : Nat) : Int) + ((ns.map nD).length : Int)).toNat else min (-((1 : Nat) : Int)).toNat (ns.map nD).length) = _
    rw [if_pos (by decide), List.length_map]; omega
  rw [e, HT.sIx_none, List.drop_zero, Nat.sub_zero, List.map_take]
theorem rowC_rev (n : Nat) : (rowC n).reverse = rowC n := by
  apply List.ext_getElem
  · rw [List.length_reverse]
  · intro i h1 h2
    have hl := rowC_len n
    rw [List.getElem_reverse, rowC_getE, rowC_getE, hl, show n + 1 - 1 - i = n - i by omega]
    exact C_symm (by omega)
abbrev PreW (n : Nat) : Prop := n ≤ 4000
def sp_whole_row : SpD := spE e1 PreW fun n => eT (rowC n)
def sp_inner_divisor : SpD := spE e1 PreW fun n => nD (idv n)
def sp_common_multiple : SpD := spE e1 PreW fun n => nD (cmul n)
theorem gcd_step {a b : Nat} (hb : b ≠ 0) : Nat.gcd b (a % b) = Nat.gcd a b := by rw [Nat.gcd_comm, ← Nat.gcd_rec, Nat.gcd_comm]
theorem midL_next (n : Nat) : midL (rowC (n + 1)) = (List.range n).map fun i => C n i + C n (i + 1) := by
  have hl := rowC_len (n + 1)
  unfold midL
  apply List.ext_getElem
  · rw [List.length_take, List.length_drop, List.length_map, List.length_range, hl]; omega
  · intro i h1 h2
    rw [List.getElem_take, List.getElem_drop, rowC_getE, List.getElem_map, List.getElem_range, Nat.add_comm 1 i, C_pascal]
theorem zip_next (n : Nat) : zipD (((rowC n).take ((rowC n).length - 1)).map nD) (((rowC n).drop 1).map nD) = (List.range n).map fun i => PyData.tuple [nD (C n i), nD (C n (i + 1))] := by
  have hl := rowC_len n
  unfold zipD
  apply List.ext_getElem
  · rw [List.length_zipWith, List.length_map, List.length_map, List.length_take, List.length_drop, List.length_map, List.length_range, hl]; omega
  · intro i h1 h2
    rw [List.getElem_zipWith, List.getElem_map, List.getElem_map, List.getElem_take, List.getElem_drop, rowC_getE, rowC_getE, List.getElem_map, List.getElem_range, Nat.add_comm 1 i]
theorem rowC_le {n x : Nat} (h : x ∈ rowC n) : x ≤ 2 ^ n := by
  obtain ⟨i, hi, rfl⟩ := List.mem_map.mp h
  exact C_le _ _
theorem midL_sub {l : List Nat} {x : Nat} (h : x ∈ midL l) : x ∈ l := List.mem_of_mem_drop (List.mem_of_mem_take h)
theorem midL_le {n i y : Nat} (hy : (midL (rowC n))[i]? = some y) : y ≤ 2 ^ n := rowC_le (midL_sub (List.mem_of_getElem? hy))
theorem gcdF_le {B : Nat} : ∀ (l : List Nat) (a : Nat), (∀ x ∈ l, x ≤ B) → a ≤ B → gcdF l a ≤ B
  | [], a, _, h => h
  | x :: l, a, hx, h => by
    show gcdF l (Nat.gcd a x) ≤ B
    refine gcdF_le l _ (fun y hy => hx y (List.mem_cons_of_mem _ hy)) ?_
    by_cases g : x = 0
    · subst g; rw [Nat.gcd_zero_right]; exact h
    · exact Nat.le_trans (Nat.gcd_le_right _ (by omega)) (hx x List.mem_cons_self)
theorem gcdF_mid_le (n i : Nat) : gcdF ((midL (rowC n)).take i) 0 ≤ 2 ^ n := gcdF_le _ _ (fun x hx => rowC_le (midL_sub (List.mem_of_mem_take hx))) (Nat.zero_le _)
end PL
set_option maxHeartbeats 4000000
namespace PL
open PySem PySem.Spec PyProof.Rows L2 RZ
/-! ### how many numbers of a row are not divided; rows ahead; full rows -/
def cntL : List Nat → Nat
  | [] => 1
  | d :: l => (d + 1) * cntL l
theorem cntL_append : ∀ a b : List Nat, cntL (a ++ b) = cntL a * cntL b
  | [], b => by show cntL b = 1 * cntL b; rw [Nat.one_mul]
  | d :: a, b => by
    show (d + 1) * cntL (a ++ b) = (d + 1) * cntL a * cntL b
    rw [cntL_append a b, Nat.mul_assoc]
theorem cntL_pos : ∀ l : List Nat, 0 < cntL l
  | [] => Nat.one_pos
  | d :: l => Nat.mul_pos (Nat.succ_pos d) (cntL_pos l)
def cnt (p n : Nat) : Nat := cntL (figs p n)
theorem cnt_zero (p : Nat) : cnt p 0 = 1 := by unfold cnt; rw [figs_zero]; rfl
theorem cnt_pos (p n : Nat) : 0 < cnt p n := cntL_pos _
theorem cnt_step {p : Nat} (hp : 2 ≤ p) (n : Nat) : cnt p n = (n % p + 1) * cnt p (n / p) := by
  rcases Nat.eq_zero_or_pos n with h | h
  · subst h; rw [Nat.zero_mod, Nat.zero_div, cnt_zero]
  · unfold cnt; rw [figs_pos hp h]; rfl
theorem div_lt' {p n : Nat} (hp : 2 ≤ p) (h : 0 < n) : n / p < n := Nat.div_lt_self h hp
theorem cnt_le {p : Nat} (hp : 2 ≤ p) (n : Nat) : cnt p n ≤ n + 1 := by
  induction n using Nat.strongRecOn with
  | _ n ih =>
    rcases Nat.eq_zero_or_pos n with h | h
    · subst h; rw [cnt_zero]; exact Nat.le_refl _
    · rw [cnt_step hp]
      have h1 := ih (n / p) (div_lt' hp h)
      have h2 := Nat.div_add_mod n p
      have h3 := Nat.mod_lt n (by omega : p > 0)
      generalize n / p = m at *
      generalize n % p = a at *
      have h4 : (a + 1) * cnt p m ≤ (a + 1) * (m + 1) := Nat.mul_le_mul_left _ h1
      have h5 : (a + 1) * m ≤ p * m := Nat.mul_le_mul_right _ (by omega)
      rw [Nat.mul_add, Nat.mul_one] at h4
      omega
theorem cnt_mulp {p : Nat} (hp : 2 ≤ p) (n : Nat) : cnt p (n * p) = cnt p n := by
  rw [cnt_step hp, Nat.mul_mod_left, Nat.mul_div_cancel _ (by omega)]; omega
def tri (a : Nat) : Nat := a * (a + 1) / 2
theorem tri_succ (a : Nat) : tri (a + 1) = tri a + (a + 1) := by
  unfold tri
  rw [show (a + 1) * (a + 1 + 1) = a * (a + 1) + (a + 1) * 2 by rw [Nat.mul_comm a (a + 1), ← Nat.mul_add], Nat.add_mul_div_right _ _ (by omega)]
def bel (p n : Nat) : Nat := if h : n = 0 ∨ p < 2 then 0 else bel p (n / p) * tri p + cnt p (n / p) * tri (n % p)
termination_by n
decreasing_by exact Nat.div_lt_self (by omega) (by omega)
theorem bel_zero (p : Nat) : bel p 0 = 0 := by rw [bel]; simp
theorem bel_step {p : Nat} (hp : 2 ≤ p) (n : Nat) : bel p n = bel p (n / p) * tri p + cnt p (n / p) * tri (n % p) := by
  rcases Nat.eq_zero_or_pos n with h | h
  · subst h; rw [Nat.zero_div, Nat.zero_mod, bel_zero]; simp [tri]
  · conv => lhs; rw [bel]
    rw [dif_neg (by omega)]
theorem succ_div_lt {p n : Nat} (hp : 2 ≤ p) (h : n % p + 1 < p) : (n + 1) / p = n / p ∧ (n + 1) % p = n % p + 1 := by
  have h2 := Nat.div_add_mod n p
  have e : n + 1 = p * (n / p) + (n % p + 1) := by omega
  constructor
  · conv => lhs; rw [e]
    rw [Nat.mul_add_div (by omega), Nat.div_eq_of_lt h, Nat.add_zero]
  · conv => lhs; rw [e]
    rw [Nat.mul_add_mod, Nat.mod_eq_of_lt h]
theorem succ_div_eq {p n : Nat} (hp : 2 ≤ p) (h : n % p + 1 = p) : (n + 1) / p = n / p + 1 ∧ (n + 1) % p = 0 := by
  have h2 := Nat.div_add_mod n p
  have e : n + 1 = p * (n / p + 1) := by rw [Nat.mul_add]; omega
  constructor
  · conv => lhs; rw [e]
    rw [Nat.mul_div_cancel_left _ (by omega)]
  · conv => lhs; rw [e]
    rw [Nat.mul_mod_right]
theorem bel_succ {p : Nat} (hp : 2 ≤ p) (n : Nat) : bel p (n + 1) = bel p n + cnt p n := by
  induction n using Nat.strongRecOn with
  | _ n ih =>
    have h3 := Nat.mod_lt n (by omega : p > 0)
    rw [bel_step hp (n + 1), bel_step hp n, cnt_step hp n]
    by_cases g : n % p + 1 < p
    · obtain ⟨e1, e2⟩ := succ_div_lt hp g
      rw [e1, e2, tri_succ, Nat.mul_add, Nat.add_assoc, Nat.mul_comm (n % p + 1)]
    · have g' : n % p + 1 = p := by omega
      obtain ⟨e1, e2⟩ := succ_div_eq hp g'
      have hn : 0 < n := by
        apply Nat.pos_of_ne_zero; intro z; subst z; rw [Nat.zero_mod] at g'; omega
      rw [e1, e2, ih _ (div_lt' hp hn), Nat.add_mul, g']
      have e3 : tri p = tri (n % p) + p := by conv => lhs; rw [← g', tri_succ, g']
      have e4 : tri 0 = 0 := rfl
      rw [e4, Nat.mul_zero, Nat.add_zero, Nat.add_assoc]
      congr 1
      rw [e3, Nat.mul_add, Nat.mul_comm p]
theorem bel_mulp {p : Nat} (hp : 2 ≤ p) (n : Nat) : bel p (n * p) = bel p n * tri p := by
  rw [bel_step hp, Nat.mul_mod_left, Nat.mul_div_cancel _ (by omega)]
  show _ + _ * tri 0 = _
  rw [show tri 0 = 0 from rfl]; omega
theorem bel_pow {p : Nat} (hp : 2 ≤ p) : ∀ h : Nat, bel p (p ^ h) = tri p ^ h
  | 0 => by rw [Nat.pow_zero, Nat.pow_zero, ← Nat.zero_add 1, bel_succ hp, bel_zero, cnt_zero]
  | h + 1 => by rw [Nat.pow_succ, bel_mulp hp, bel_pow hp h, Nat.pow_succ]
theorem bel_ge {p : Nat} (hp : 2 ≤ p) : ∀ n : Nat, n ≤ bel p n
  | 0 => Nat.zero_le _
  | n + 1 => by rw [bel_succ hp]; have := bel_ge hp n; have := cnt_pos p n; omega
theorem bel_sum {p : Nat} (hp : 2 ≤ p) : ∀ n : Nat, bel p n = ((List.range n).map (cnt p)).sum
  | 0 => by rw [bel_zero]; rfl
  | n + 1 => by rw [bel_succ hp, bel_sum hp n, sum_range_succ]
/-! full rows -/
theorem full_of {p : Nat} (hp : 2 ≤ p) {d : Nat} (h0 : 0 < d) (h1 : d ≤ p) : ∀ g : Nat, cnt p (d * p ^ g - 1) = d * p ^ g
  | 0 => by
    rw [Nat.pow_zero, Nat.mul_one, cnt_step hp, Nat.mod_eq_of_lt (by omega), Nat.div_eq_of_lt (by omega), cnt_zero]; omega
  | g + 1 => by
    have hq : 0 < p ^ g := Nat.pow_pos (by omega)
    have hd : 0 < d * p ^ g := Nat.mul_pos h0 hq
    have e : d * p ^ (g + 1) - 1 = p * (d * p ^ g - 1) + (p - 1) := by
      rw [Nat.pow_succ, ← Nat.mul_assoc, Nat.mul_comm _ p, Nat.mul_sub, Nat.mul_one]
      have : p * 1 ≤ p * (d * p ^ g) := Nat.mul_le_mul_left _ hd
      omega
    rw [cnt_step hp, e, Nat.mul_add_mod, Nat.mod_eq_of_lt (by omega), Nat.mul_add_div (by omega), Nat.div_eq_of_lt (by omega : p - 1 < p)]
    simp only [Nat.add_zero]
    rw [full_of hp h0 h1 g]
    rw [Nat.pow_succ, show p - 1 + 1 = p by omega, Nat.mul_left_comm, Nat.mul_comm p]
theorem full_form {p : Nat} (hp : 2 ≤ p) (n : Nat) : cnt p n = n + 1 → ∃ d g, 0 < d ∧ d < p ∧ n + 1 = d * p ^ g := by
  induction n using Nat.strongRecOn with
  | _ n ih =>
    intro h
    have h2 := Nat.div_add_mod n p
    have h3 := Nat.mod_lt n (by omega : p > 0)
    rw [cnt_step hp] at h
    have hl := cnt_le hp (n / p)
    by_cases g : n < p
    · by_cases g2 : n + 1 < p
      · exact ⟨n + 1, 0, by omega, g2, by rw [Nat.pow_zero, Nat.mul_one]⟩
      · exact ⟨1, 1, by omega, by omega, by rw [Nat.pow_one, Nat.one_mul]; omega⟩
    · have hm : 0 < n / p := Nat.div_pos (by omega) (by omega)
      have ih' := ih (n / p) (div_lt' hp (by omega))
      generalize hm' : n / p = m at *
      generalize ha' : n % p = a at *
      have h4 : (a + 1) * cnt p m ≤ (a + 1) * (m + 1) := Nat.mul_le_mul_left _ hl
      have ea : a + 1 = p := by
        apply Nat.le_antisymm h3
        apply Nat.le_of_not_lt; intro q
        have h5 : (a + 1) * m < p * m := Nat.mul_lt_mul_of_pos_right q hm
        rw [Nat.mul_add, Nat.mul_one] at h4
        omega
      rw [ea] at h
      have h6 : cnt p m = m + 1 := by
        apply Nat.eq_of_mul_eq_mul_left (show 0 < p by omega)
        rw [h, Nat.mul_add]; omega
      obtain ⟨d, g', d0, d1, e⟩ := ih' h6
      refine ⟨d, g' + 1, d0, d1, ?_⟩
      rw [Nat.pow_succ, ← Nat.mul_assoc, ← e, Nat.add_mul, Nat.mul_comm m]; omega
theorem full_strip {p : Nat} (hp : 2 ≤ p) (n : Nat) : cnt p n = n + 1 ↔ strip p (n + 1) < p := by
  constructor
  · intro h
    obtain ⟨d, g, d0, d1, e⟩ := full_form hp n h
    rw [e, Nat.mul_comm, strip_pow_mul hp d0 (by rw [Nat.mod_eq_of_lt d1]; omega)]
    exact d1
  · intro h
    obtain ⟨m, e, m1, m0⟩ := vp_split hp (n + 1) (n + 1) (Nat.le_refl _) (by omega)
    generalize vp p (n + 1) = v at *
    rw [e, strip_pow_mul hp m0 m1] at h
    have := full_of hp m0 (Nat.le_of_lt h) v
    rw [Nat.mul_comm, ← e, Nat.add_sub_cancel] at this
    exact this
theorem pow_between {p N h g : Nat} (hp : 2 ≤ p) (h1 : p ^ h ≤ N) (h2 : N < p ^ h * p) (g1 : p ^ g ≤ N) (g2 : N < p ^ g * p) : h = g := by
  rw [← Nat.pow_succ] at h2 g2
  have a1 := (Nat.pow_lt_pow_iff_right (by omega : 1 < p)).mp (Nat.lt_of_le_of_lt h1 g2)
  have a2 := (Nat.pow_lt_pow_iff_right (by omega : 1 < p)).mp (Nat.lt_of_le_of_lt g1 h2)
  omega
def ffr (p n : Nat) : Nat := (n + p ^ ((figs p (n + 1)).length - 1)) / p ^ ((figs p (n + 1)).length - 1) * p ^ ((figs p (n + 1)).length - 1) - 1
theorem ffr_eq {p n h : Nat} (hp : 2 ≤ p) (h1 : p ^ h ≤ n + 1) (h2 : n + 1 < p ^ h * p) : ffr p n = (n + p ^ h) / p ^ h * p ^ h - 1 := by
  have k1 := figs_lt_pow hp (n + 1)
  have k2 := figs_pow_le hp (n + 1) (n + 1) (Nat.le_refl _) (by omega)
  unfold ffr
  have k0 : 0 < (figs p (n + 1)).length := by rw [figs_pos hp (by omega)]; simp
  generalize (figs p (n + 1)).length = L at *
  obtain ⟨L, rfl⟩ : ∃ l, L = l + 1 := ⟨L - 1, by omega⟩
  rw [Nat.add_sub_cancel]
  rw [Nat.pow_succ] at k1 k2
  rw [Nat.mul_comm p (n + 1)] at k2
  rw [pow_between hp h1 h2 (Nat.le_of_mul_le_mul_right k2 (by omega)) k1]
theorem ffr_ex {p : Nat} (hp : 2 ≤ p) (n : Nat) : ∃ h, p ^ h ≤ n + 1 ∧ n + 1 < p ^ h * p := by
  have k1 := figs_lt_pow hp (n + 1)
  have k2 := figs_pow_le hp (n + 1) (n + 1) (Nat.le_refl _) (by omega)
  have k0 : 0 < (figs p (n + 1)).length := by rw [figs_pos hp (by omega)]; simp
  generalize (figs p (n + 1)).length = L at *
  obtain ⟨L, rfl⟩ : ∃ l, L = l + 1 := ⟨L - 1, by omega⟩
  rw [Nat.pow_succ] at k1 k2
  rw [Nat.mul_comm p (n + 1)] at k2
  exact ⟨L, Nat.le_of_mul_le_mul_right k2 (by omega), k1⟩
theorem full_pow_big {p : Nat} (hp : 2 ≤ p) {m d g h : Nat} (d1 : d < p) (e : m + 1 = d * p ^ g) (hb : p ^ h ≤ m + 1) : ∃ q, m + 1 = q * p ^ h := by
  rcases Nat.lt_or_ge g h with k | k
  · exfalso
    have hq : 0 < p ^ g := Nat.pow_pos (by omega)
    have a1 : d * p ^ g < p * p ^ g := Nat.mul_lt_mul_of_pos_right d1 hq
    have a2 : p ^ (g + 1) ≤ p ^ h := Nat.pow_le_pow_right (by omega) k
    rw [Nat.pow_succ, Nat.mul_comm] at a2
    omega
  · refine ⟨d * p ^ (g - h), ?_⟩
    rw [e, Nat.mul_assoc, ← Nat.pow_add, Nat.sub_add_cancel k]
theorem ffr_spec {p : Nat} (hp : 2 ≤ p) (n : Nat) : n ≤ ffr p n ∧ cnt p (ffr p n) = ffr p n + 1 ∧ ∀ m, n ≤ m → cnt p m = m + 1 → ffr p n ≤ m := by
  obtain ⟨h, h1, h2⟩ := ffr_ex hp n
  have hq : 0 < p ^ h := Nat.pow_pos (by omega)
  rw [ffr_eq hp h1 h2]
  generalize hb : p ^ h = b at *
  have t1 := Nat.div_add_mod (n + b) b
  have t2 := Nat.mod_lt (n + b) hq
  have t3 : (n + b) / b * b = b * ((n + b) / b) := Nat.mul_comm _ _
  have t0 : 0 < (n + b) / b := Nat.div_pos (by omega) hq
  have tp : (n + b) / b ≤ p := by
    apply Nat.le_of_lt_succ
    rw [Nat.div_lt_iff_lt_mul hq, Nat.succ_mul, Nat.mul_comm p b]; omega
  have tf := full_of hp t0 tp h
  rw [hb] at tf
  have tpos : 0 < (n + b) / b * b := Nat.mul_pos t0 hq
  refine ⟨by omega, by rw [tf]; omega, fun m hm hf => ?_⟩
  obtain ⟨d, g, d0, d1, e⟩ := full_form hp m hf
  obtain ⟨q, eq⟩ := full_pow_big (h := h) hp d1 e (by rw [hb]; omega)
  rw [hb] at eq
  have : (n + b) / b ≤ q := by
    apply Nat.le_of_lt_succ
    rw [Nat.div_lt_iff_lt_mul hq, Nat.succ_mul, ← eq]; omega
  have := Nat.mul_le_mul_right b this
  omega
theorem ffr_uniq {p n f : Nat} (hp : 2 ≤ p) (h1 : n ≤ f) (h2 : cnt p f = f + 1) (h3 : ∀ m, n ≤ m → cnt p m = m + 1 → f ≤ m) : ffr p n = f := by
  obtain ⟨k1, k2, k3⟩ := ffr_spec hp n
  exact Nat.le_antisymm (k3 f h1 h2) (h3 _ k1 k2)
theorem ffr_self {p n : Nat} (hp : 2 ≤ p) (h : cnt p n = n + 1) : ffr p n = n := ffr_uniq hp (Nat.le_refl _) h fun m hm _ => hm
theorem ffr_full {p n : Nat} (hp : 2 ≤ p) : cnt p n = n + 1 ↔ ffr p n = n :=
  ⟨ffr_self hp, fun h => by have := (ffr_spec hp n).2.1; rwa [h] at this⟩
theorem ffr_next {p t h : Nat} (hp : 2 ≤ p) (hf : cnt p t = t + 1) (h1 : p ^ h ≤ t + 1) (h2 : t + 1 < p ^ h * p) : ffr p (t + 1) = t + p ^ h := by
  obtain ⟨d, g, d0, d1, e⟩ := full_form hp t hf
  have hq : 0 < p ^ g := Nat.pow_pos (by omega)
  have hg : h = g := pow_between hp h1 h2 (by rw [e]; exact Nat.le_mul_of_pos_left _ d0) (by rw [e, Nat.mul_comm d]; exact Nat.mul_lt_mul_of_pos_left d1 hq)
  subst hg
  have ff := full_of hp (d := d + 1) (by omega) (by omega) h
  have ee : (d + 1) * p ^ h = t + p ^ h + 1 := by rw [Nat.add_mul, Nat.one_mul, ← e]; omega
  rw [ee, Nat.add_sub_cancel] at ff
  refine ffr_uniq hp (by omega) ff fun m hm hfm => ?_
  obtain ⟨d', g', d0', d1', e'⟩ := full_form hp m hfm
  obtain ⟨q, eq⟩ := full_pow_big (h := h) hp d1' e' (by omega)
  have : d < q := by
    apply Nat.lt_of_not_le; intro z
    have := Nat.mul_le_mul_right (p ^ h) z
    omega
  have := Nat.mul_le_mul_right (p ^ h) (show d + 1 ≤ q from this)
  omega
/-! ### sums over a row, figure by figure -/
theorem filter_len_sum {α : Type} (q : α → Bool) : ∀ l : List α, (l.filter q).length = (l.map fun x => if q x then 1 else 0).sum
  | [] => rfl
  | x :: l => by
    rw [List.filter_cons, List.map_cons, List.sum_cons, ← filter_len_sum q l]
    cases q x
    · rw [if_neg (by decide), if_neg (by decide), Nat.zero_add]
    · rw [if_pos rfl, if_pos rfl, List.length_cons, Nat.add_comm]
theorem sum_range_more {f : Nat → Nat} {n : Nat} (hz : ∀ k, n ≤ k → f k = 0) : ∀ j : Nat, ((List.range (n + j)).map f).sum = ((List.range n).map f).sum
  | 0 => rfl
  | j + 1 => by rw [← Nat.add_assoc, sum_range_succ, sum_range_more hz j, hz _ (by omega), Nat.add_zero]
theorem sum_range_split (f : Nat → Nat) (n : Nat) : ∀ m : Nat, ((List.range (n + m)).map f).sum = ((List.range n).map f).sum + ((List.range m).map fun b => f (n + b)).sum
  | 0 => rfl
  | m + 1 => by rw [← Nat.add_assoc, sum_range_succ, sum_range_split f n m, sum_range_succ, Nat.add_assoc]
theorem sum_range_blocks (f : Nat → Nat) (p : Nat) : ∀ M : Nat, ((List.range (p * M)).map f).sum = ((List.range M).map fun j => ((List.range p).map fun b => f (p * j + b)).sum).sum
  | 0 => by rw [Nat.mul_zero]; rfl
  | M + 1 => by rw [Nat.mul_succ, sum_range_split, sum_range_blocks f p M, sum_range_succ]
theorem sum_range_zero (n : Nat) : ((List.range n).map fun _ => 0).sum = 0 := by
  induction n with
  | zero => rfl
  | succ n ih => rw [sum_range_succ, ih]
theorem sum_range_swap (f : Nat → Nat → Nat) (n : Nat) : ∀ m : Nat, ((List.range m).map fun j => ((List.range n).map fun b => f j b).sum).sum = ((List.range n).map fun b => ((List.range m).map fun j => f j b).sum).sum
  | 0 => (sum_range_zero n).symm
  | m + 1 => by
    rw [sum_range_succ, sum_range_swap f n m, ← sum_range_add]
    exact sum_range_congr fun i _ => (sum_range_succ _ _).symm
theorem sum_range_const (c n : Nat) : ((List.range n).map fun _ => c).sum = n * c := by
  induction n with
  | zero => rw [Nat.zero_mul]; rfl
  | succ n ih => rw [sum_range_succ, ih, Nat.add_mul, Nat.one_mul]
def FS (p n : Nat) (g : Nat → Nat) : Nat := ((List.range (n + 1)).map fun k => g (C n k % p)).sum
theorem FS_congr {p : Nat} (hp : 2 ≤ p) (n : Nat) {g g' : Nat → Nat} (h : ∀ x, x < p → g x = g' x) : FS p n g = FS p n g' :=
  sum_range_congr fun k _ => h _ (Nat.mod_lt _ (by omega))
theorem FS_step {p : Nat} (hp : Pr p) (n : Nat) {g : Nat → Nat} (h0 : g 0 = 0) : FS p n g = ((List.range (n % p + 1)).map fun b => FS p (n / p) fun x => g (x * C (n % p) b % p)).sum := by
  have h2 := Pr_two hp
  have d1 := Nat.div_add_mod n p
  have d2 := Nat.mod_lt n (by omega : p > 0)
  unfold FS
  have e1 : ((List.range (n + 1)).map fun k => g (C n k % p)).sum = ((List.range (p * (n / p + 1))).map fun k => g (C n k % p)).sum := by
    have := sum_range_more (f := fun k => g (C n k % p)) (n := n + 1) (fun k hk => by show g (C n k % p) = 0; rw [C_gt (by omega), Nat.zero_mod, h0]) (p - 1 - n % p)
    rw [← this, show n + 1 + (p - 1 - n % p) = p * (n / p + 1) by rw [Nat.mul_add]; omega]
  rw [e1, sum_range_blocks, sum_range_swap]
  have e2 : p = n % p + 1 + (p - 1 - n % p) := by omega
  have e3 : ∀ b, b < p → ∀ j, g (C n (p * j + b) % p) = g (C (n / p) j % p * C (n % p) b % p) := fun b hb j => by
    congr 1
    rw [lucas1 hp, Nat.mul_add_div (by omega), Nat.div_eq_of_lt hb, Nat.add_zero, Nat.mul_add_mod, Nat.mod_eq_of_lt hb, Nat.mod_mul_mod]
  have e4 : ((List.range p).map fun b => ((List.range (n / p + 1)).map fun j => g (C n (p * j + b) % p)).sum).sum = ((List.range p).map fun b => ((List.range (n / p + 1)).map fun j => g (C (n / p) j % p * C (n % p) b % p)).sum).sum :=
    sum_range_congr fun b hb => sum_range_congr fun j _ => e3 b hb j
  rw [e4]
  have e5 : ∀ b, n % p + 1 ≤ b → ((List.range (n / p + 1)).map fun j => g (C (n / p) j % p * C (n % p) b % p)).sum = 0 := fun b hb => by
    rw [C_gt (n := n % p) (k := b) (by omega)]
    simp only [Nat.mul_zero, Nat.zero_mod, h0]
    exact sum_range_zero _
  have e6 := sum_range_more e5 (p - 1 - n % p)
  rw [← e2] at e6
  exact e6
theorem FS_nz {p : Nat} (hp : Pr p) (n : Nat) : FS p n (fun x => if x = 0 then 0 else 1) = cnt p n := by
  have h2 := Pr_two hp
  induction n using Nat.strongRecOn with
  | _ n ih =>
    rcases Nat.eq_zero_or_pos n with h | h
    · subst h
      rw [cnt_zero]; unfold FS
      show ((List.range 1).map _).sum = 1
      simp only [List.range_one, List.map_cons, List.map_nil, List.sum_cons, List.sum_nil, C_zero]
      rw [Nat.mod_eq_of_lt (by omega)]; rfl
    · rw [FS_step hp n rfl, cnt_step h2]
      have d2 := Nat.mod_lt n (by omega : p > 0)
      rw [← ih (n / p) (div_lt' h2 h), ← sum_range_const]
      refine sum_range_congr fun b hb => FS_congr h2 _ fun x hx => ?_
      have k1 : C (n % p) b % p ≠ 0 := fun z => by have := (C_small hp d2 (by omega)).mp z; omega
      have k2 := Pr_mul0 hp (a := x) (b := C (n % p) b)
      by_cases g : x = 0
      · subst g; rw [if_pos (by rw [Nat.zero_mul, Nat.zero_mod])]; rfl
      · rw [if_neg g, if_neg]
        intro z
        rcases k2.mp z with z | z
        · rw [Nat.mod_eq_of_lt hx] at z; exact g z
        · exact k1 z
theorem nz_count {p : Nat} (hp : Pr p) (n : Nat) : ((rowC n).filter fun x => !decide (x % p = 0)).length = cnt p n := by
  rw [filter_len_sum, ← FS_nz hp n]
  unfold rowC FS
  rw [List.map_map]
  congr 1
  refine List.map_congr_left fun k _ => ?_
  by_cases g : C n k % p = 0 <;> simp [g]
def sp_count : SpD := spE e2 PreN fun a => nD (cnt a.2 a.1)
def sp_is_full : SpD := spE e2 PreN fun a => .bool (decide (cnt a.2 a.1 = a.1 + 1))
def sp_full_from : SpD := spE e2 (fun a => a.1 < 2 ^ 60 ∧ 2 ≤ a.2 ∧ a.2 ≤ 7) fun a => nD (ffr a.2 a.1)
def sp_below : SpD := spE e2 (fun a => a.1 < 2 ^ 50 ∧ 2 ≤ a.2 ∧ a.2 ≤ 7) fun a => nD (bel a.2 a.1)
theorem bel_back {p : Nat} (hp : 2 ≤ p) (n j : Nat) : bel p (n / p ^ (j + 1)) * tri p ^ (j + 1) + cnt p (n / p ^ (j + 1)) * tri (n / p ^ j % p) * tri p ^ j = bel p (n / p ^ j) * tri p ^ j := by
  rw [bel_step hp (n / p ^ j), Nat.div_div_eq_div_mul, ← Nat.pow_succ, Nat.add_mul, Nat.pow_succ (tri p), Nat.mul_comm (tri p ^ j) (tri p), Nat.mul_assoc (bel p _)]
theorem cnt_back {p : Nat} (hp : 2 ≤ p) (n j : Nat) : cnt p (n / p ^ (j + 1)) * (n / p ^ j % p + 1) = cnt p (n / p ^ j) := by
  rw [cnt_step hp (n / p ^ j), Nat.div_div_eq_div_mul, ← Nat.pow_succ, Nat.mul_comm]
end PL
set_option maxHeartbeats 4000000
/-! further rules -/
namespace PL
open PySem PySem.Spec PyProof.Rows L2 RZ
section
variable {X : Cx} {T : Option Addr} {S : Sta} {e : Expr} {es : List Expr} {d : PyData}
theorem eva_p {κ : List PyData → Nat → Prop} (h : EvP X T e S d) (r : EvA X T es S fun xs b => κ (d :: xs) b) (hs : starEach (e :: es) X.env = (false, eval e X.env) :: starEach es X.env := by rfl) : EvA X T (e :: es) S κ :=
  eva_cons (Ev.k h r) hs
theorem eva_nat (n : Nat) {κ : List PyData → Nat → Prop} {z : Int} {k : Nat} {pos : Pos} (r : EvA X T es S fun xs b => κ (nD n :: xs) b) (h : z = (n : Int) := by rfl) : EvA X T (.Constant (.int z) k pos :: es) S κ :=
  eva_cons (Ev.k (evp_nat n h) r) (by rfl)
theorem ev_lstD {κ : PyData → Nat → Prop} {pos : Pos} (h : EvA X T es S fun ds b => ds.length ≤ sizeLine ∧ κ (.list ds) b) : Ev X T (.List es pos) S κ :=
  Ev.ofN (evn_lst (κ := fun ds b => κ (.list ds) b) h) fun _ _ k => k
end
/-! name = [..] on one line, the name a local that is no cell: the model lays the list by another road -/
section
variable {X : Cx} {T : Option Addr} {S : Sta} {elt tg iter t : Expr} {ifs : List Expr} {scope : Scope} {own : List (Str × Nat)} {g : TG} {rest : List Stmt} {k : KD} {pos pos' spos : Pos} {α : Type}
def LcH (X : Cx) (T : Option Addr) (S : Sta) (elt : Expr) (ifs : List Expr) (scope : Scope) (own : List (Str × Nat)) (g : TG) (κi κ : List PyData → Nat → Prop) : Prop :=
  ∀ xs b, κi xs b → ∃ Pv : Nat → List PyData → Nat → Prop, Pv 0 [] b ∧ xs.length ≤ sizeLine ∧ (∀ i x acc b1, xs[i]? = some x → Pv i acc b1 → ∃ ps : List (Nat × PyData), (∀ p ∈ ps, p.1 ∈ own.map (·.2)) ∧ GS X.K g x ps ∧
      ∃ c, ForBlk X scope (fun Y => EvTs Y T ifs ⟨b1, setD (wipeS S.sl (own.map (·.2))) ps⟩ c) ∧ (c = true → ForBlk X scope fun Y => Ev Y T elt ⟨b1, setD (wipeS S.sl (own.map (·.2))) ps⟩ fun y b2 => Pv (i + 1) (acc ++ [y]) b2) ∧ (c = false → Pv (i + 1) acc b1)) ∧ (∀ acc b1, Pv xs.length acc b1 → κ acc b1)
theorem run_lc (i : Nat) {x : Str} {κi κ : List PyData → Nat → Prop} (hN : X.N.Nodup) (hi : EvI X T tg iter S.drp κi) (ok : BlkOk X.N X.env.scope scope own) (hg : ForBlk X scope fun Y => PG Y tg g)
    (h : LcH X T S.drp elt ifs scope own g κi κ) (q : ∀ ds b, κ ds b → Run X T rest ⟨b, S.sl.set i (some (.mu ds))⟩ k)
    (hy : X.N[i]? = some x := by rfl) (hyl : X.env.scope.names.lookup x = some .local := by rfl) (hsw : swapsWith (.ListComp elt [⟨tg, iter, ifs, 0⟩] scope pos) (some (.Name x pos')) spos.line X.env = pure true := by rfl)
    (hc : X.calm = true := by rfl) (hs : ∀ x, foldedSetIterable iter X.env x = pure x := by intro _; rfl) : Run X T (.Assign [.Name x pos'] (.ListComp elt [⟨tg, iter, ifs, 0⟩] scope pos) spos :: rest) S k := fun B R σ H I D L => by
  obtain ⟨wi, hpi, hwi⟩ := hi
  refine seq_of (ps_setLc (wi := wi) (g := g) (tt := fun σ H Q => ForBlk X scope fun Y => wpTs Y ifs σ H Q) (te := fun σ H Q => ForBlk X scope fun Y => wpE Y elt σ H Q) hc hN hy hyl hsw hpi ok hg (fun s H0 C cl fp => ⟨fun pins s' σ' H' Q' J w => w s H0 C cl fp pins s' J⟩) (fun s H0 C cl fp => ⟨fun pins s' σ' H' Q' J w => w s H0 C cl fp pins s' J⟩) hs) ?_
  exact lc_read hwi h I.drp fun R1 p xs H1 ds b k1 I1 n1 h1 h2 h3 h4 h5 => q ds b k1 B R1 _ H1 ((I.after I1.le n1 I1.tw).setM h5 h4 h3 (I.n.none_of h2 h1) h2 fun j es _ hj hσ => by
      obtain ⟨xs', _, w, _⟩ := I.mu ⟨j, es, hj, hσ⟩
      rw [h1] at w; cases w) D L
theorem run_lcF (i : Nat) {x : Str} {κi : List PyData → Nat → Prop} {ds : List PyData} (hN : X.N.Nodup) (hi : EvI X T tg iter S.frz κi) (ok : BlkOk X.N X.env.scope scope own) (hg : ForBlk X scope fun Y => PG Y tg g)
    (h : LcH X T S.frz elt ifs scope own g κi fun es b => es = ds ∧ b = S.b) (hn : noLs ds = true) (q : Run X T rest ⟨S.b, S.sl.set i (some (.mu ds))⟩ k)
    (hy : X.N[i]? = some x := by rfl) (hyl : X.env.scope.names.lookup x = some .local := by rfl) (hsw : swapsWith (.ListComp elt [⟨tg, iter, ifs, 0⟩] scope pos) (some (.Name x pos')) spos.line X.env = pure true := by rfl)
    (hc : X.calm = true := by rfl) (hs : ∀ x, foldedSetIterable iter X.env x = pure x := by intro _; rfl) : Run X T (.Assign [.Name x pos'] (.ListComp elt [⟨tg, iter, ifs, 0⟩] scope pos) spos :: rest) S k := fun B R σ H I D L => by
  obtain ⟨wi, hpi, hwi⟩ := hi
  refine seq_of (ps_setLc (wi := wi) (g := g) (tt := fun σ H Q => ForBlk X scope fun Y => wpTs Y ifs σ H Q) (te := fun σ H Q => ForBlk X scope fun Y => wpE Y elt σ H Q) hc hN hy hyl hsw hpi ok hg (fun s H0 C cl fp => ⟨fun pins s' σ' H' Q' J w => w s H0 C cl fp pins s' J⟩) (fun s H0 C cl fp => ⟨fun pins s' σ' H' Q' J w => w s H0 C cl fp pins s' J⟩) hs) ?_
  refine lc_read hwi h I.frz fun R1 p xs H1 ds' b k1 I1 n1 h1 h2 h3 h4 h5 => ?_
  obtain ⟨e1, e2⟩ := k1; subst e1 e2
  obtain ⟨t1, t2, t3, t4⟩ := I.thaw I1.le n1
  have hp : unR S σ R1 p = none := by
    by_cases m : Mu S σ p
    · exact unR_yes m
    · rw [unR_no m]; exact h3
  exact q B _ _ H1 ((I.after t1 t2 (t4 I1.tw)).setM (h5.nol t3 hn) h4 hp (I.n.none_of h2 h1) h2 fun j es _ hj hσ => by
    obtain ⟨xs', _, w, _⟩ := I.mu ⟨j, es, hj, hσ⟩
    rw [h1] at w; cases w) D L
theorem lch_mapA (as : List α) (enc : α → PyData) (ps : PyData → List (Nat × PyData)) (f : α → PyData)
    (hz : as.length ≤ sizeLine) (hps : ∀ x ∈ as, (∀ q ∈ ps (enc x), q.1 ∈ own.map (·.2)) ∧ GS X.K g (enc x) (ps (enc x))) (he : ∀ x ∈ as, ForBlk X scope fun Y => EvP Y T elt ⟨S.b, setD (wipeS S.sl (own.map (·.2))) (ps (enc x))⟩ (f x)) :
    LcH X T S elt [] scope own g (fun ys b => ys = as.map enc ∧ b = S.b) fun es b => es = as.map f ∧ b = S.b := fun ys b ⟨e1, e2⟩ => by
  subst e1 e2
  refine ⟨fun i acc b => acc = (as.take i).map f ∧ b = S.b, ⟨rfl, rfl⟩, by rw [List.length_map]; exact hz, fun i x acc b1 hx ⟨ea, eb⟩ => ?_, fun acc b1 ⟨ea, eb⟩ => ⟨by rw [ea, List.length_map, List.take_length], eb⟩⟩
  rw [List.getElem?_map] at hx
  cases w : as[i]? with
  | none => rw [w] at hx; cases hx
  | some y =>
    rw [w] at hx
    have hx' : enc y = x := Option.some.inj hx
    subst hx'
    have hm := List.mem_of_getElem? w
    refine ⟨ps (enc y), (hps y hm).1, (hps y hm).2, true, fun s H0 C cl fp => rfl, fun _ s H0 C cl fp => ?_, fun z => by cases z⟩
    subst ea eb
    refine Ev.k (he y hm s H0 C cl fp) ⟨?_, rfl⟩
    rw [List.take_add_one, w, List.map_append]; rfl
theorem lch_filA (as : List α) (enc : α → PyData) (ps : PyData → List (Nat × PyData)) (q : α → Bool) (f : α → PyData)
    (hz : as.length ≤ sizeLine) (hps : ∀ x ∈ as, (∀ q ∈ ps (enc x), q.1 ∈ own.map (·.2)) ∧ GS X.K g (enc x) (ps (enc x))) (ht : ∀ x ∈ as, ForBlk X scope fun Y => EvT Y T t ⟨S.b, setD (wipeS S.sl (own.map (·.2))) (ps (enc x))⟩ (q x)) (he : ∀ x ∈ as, q x = true → ForBlk X scope fun Y => EvP Y T elt ⟨S.b, setD (wipeS S.sl (own.map (·.2))) (ps (enc x))⟩ (f x)) :
    LcH X T S elt [t] scope own g (fun ys b => ys = as.map enc ∧ b = S.b) fun es b => es = (as.filter q).map f ∧ b = S.b := fun ys b ⟨e1, e2⟩ => by
  subst e1 e2
  refine ⟨fun i acc b => acc = ((as.take i).filter q).map f ∧ b = S.b, ⟨rfl, rfl⟩, by rw [List.length_map]; exact hz, fun i x acc b1 hx ⟨ea, eb⟩ => ?_, fun acc b1 ⟨ea, eb⟩ => ⟨by rw [ea, List.length_map, List.take_length], eb⟩⟩
  rw [List.getElem?_map] at hx
  cases w : as[i]? with
  | none => rw [w] at hx; cases hx
  | some y =>
    rw [w] at hx
    have hx' : enc y = x := Option.some.inj hx
    subst hx'
    have hm := List.mem_of_getElem? w
    subst ea eb
    refine ⟨ps (enc y), (hps y hm).1, (hps y hm).2, q y, fun s H0 C cl fp => ht y hm s H0 C cl fp, fun hq s H0 C cl fp => ?_, fun hq => ⟨?_, rfl⟩⟩
    · refine Ev.k (he y hm hq s H0 C cl fp) ⟨?_, rfl⟩
      rw [List.take_add_one, w, List.filter_append, List.map_append, Option.toList_some, List.filter_cons, if_pos hq]; rfl
    · rw [List.take_add_one, w, List.filter_append, Option.toList_some, List.filter_cons, if_neg (by rw [hq]; decide), List.filter_nil, List.append_nil]
/-- y = [f(x) for x in xs], y = [f(x) for x in xs if q(x)] -/
theorem run_mapA (i : Nat) {x : Str} (as : List α) (enc : α → PyData) (ps : PyData → List (Nat × PyData)) (f : α → PyData) (hN : X.N.Nodup) (hi : EvIP X T tg iter S.drp (as.map enc)) (ok : BlkOk X.N X.env.scope scope own) (hg : ForBlk X scope fun Y => PG Y tg g)
    (hz : as.length ≤ sizeLine) (hps : ∀ x ∈ as, (∀ q ∈ ps (enc x), q.1 ∈ own.map (·.2)) ∧ GS X.K g (enc x) (ps (enc x))) (he : ∀ x ∈ as, ForBlk X scope fun Y => EvP Y T elt ⟨S.b, setD (wipeS S.drp.sl (own.map (·.2))) (ps (enc x))⟩ (f x))
    (q : Run X T rest ⟨S.b, S.sl.set i (some (.mu (as.map f)))⟩ k)
    (hy : X.N[i]? = some x := by rfl) (hyl : X.env.scope.names.lookup x = some .local := by rfl) (hsw : swapsWith (.ListComp elt [⟨tg, iter, [], 0⟩] scope pos) (some (.Name x pos')) spos.line X.env = pure true := by rfl)
    (hc : X.calm = true := by rfl) (hs : ∀ x, foldedSetIterable iter X.env x = pure x := by intro _; rfl) : Run X T (.Assign [.Name x pos'] (.ListComp elt [⟨tg, iter, [], 0⟩] scope pos) spos :: rest) S k :=
  run_lc i hN hi ok hg (lch_mapA as enc ps f hz hps he) (fun _ _ ⟨e1, e2⟩ => by subst e1 e2; exact q) hy hyl hsw hc hs
theorem run_filA (i : Nat) {x : Str} (as : List α) (enc : α → PyData) (ps : PyData → List (Nat × PyData)) (p : α → Bool) (f : α → PyData) (hN : X.N.Nodup) (hi : EvIP X T tg iter S.drp (as.map enc)) (ok : BlkOk X.N X.env.scope scope own) (hg : ForBlk X scope fun Y => PG Y tg g)
    (hz : as.length ≤ sizeLine) (hps : ∀ x ∈ as, (∀ q ∈ ps (enc x), q.1 ∈ own.map (·.2)) ∧ GS X.K g (enc x) (ps (enc x))) (ht : ∀ x ∈ as, ForBlk X scope fun Y => EvT Y T t ⟨S.b, setD (wipeS S.drp.sl (own.map (·.2))) (ps (enc x))⟩ (p x)) (he : ∀ x ∈ as, p x = true → ForBlk X scope fun Y => EvP Y T elt ⟨S.b, setD (wipeS S.drp.sl (own.map (·.2))) (ps (enc x))⟩ (f x))
    (q : Run X T rest ⟨S.b, S.sl.set i (some (.mu ((as.filter p).map f)))⟩ k)
    (hy : X.N[i]? = some x := by rfl) (hyl : X.env.scope.names.lookup x = some .local := by rfl) (hsw : swapsWith (.ListComp elt [⟨tg, iter, [t], 0⟩] scope pos) (some (.Name x pos')) spos.line X.env = pure true := by rfl)
    (hc : X.calm = true := by rfl) (hs : ∀ x, foldedSetIterable iter X.env x = pure x := by intro _; rfl) : Run X T (.Assign [.Name x pos'] (.ListComp elt [⟨tg, iter, [t], 0⟩] scope pos) spos :: rest) S k :=
  run_lc i hN hi ok hg (lch_filA as enc ps p f hz hps ht he) (fun _ _ ⟨e1, e2⟩ => by subst e1 e2; exact q) hy hyl hsw hc hs
end
/-! x = y, y a list that the function owns: x owns it from now on -/
section
variable {X : Cx} {T : Option Addr} {S : Sta} {rest : List Stmt} {k : KD} {pos pos' py : Pos}
theorem set_none_get {l : Sls} {j i : Nat} {s : Sl} (h : (l.set j none)[i]? = some (some s)) : i ≠ j ∧ l[i]? = some (some s) := by
  by_cases e : i = j
  · subst e
    by_cases g : i < l.length
    · rw [List.getElem?_set_self g] at h; cases h
    · rw [List.getElem?_eq_none (by rw [List.length_set]; omega)] at h; cases h
  · rw [List.getElem?_set_ne (Ne.symm e)] at h; exact ⟨e, h⟩
theorem run_move (j i : Nat) {x y : Str} {ds : List PyData} (hj : S.sl[j]? = some (some (.mu ds))) (q : Run X T rest ⟨S.b, (S.sl.set j none).set i (some (.mu ds))⟩ k) (hN : X.N.Nodup) (hNy : X.N[j]? = some y := by rfl) (hv : Vis X.env.scope y := by first | exact Or.inl rfl | exact Or.inr (Or.inl rfl) | exact Or.inr (Or.inr rfl))
    (hi : X.N[i]? = some x := by rfl) (hx : Loc X.env.scope x := by first | exact .inl rfl | exact .inr rfl) (hf : X.fn x = true ∨ X.env.scope.names.lookup x = some .local := by first | exact .inl rfl | exact .inr rfl)
    (hs : swapsWith (.Name y py) (some (.Name x pos')) pos.line X.env = pure false := by rfl) (hd : (y == ("__debug__" : Str)) = false := by decide) (hcd : (y == ("__classdict__" : Str)) = false := by decide) : Run X T (.Assign [.Name x pos'] (.Name y py) pos :: rest) S k := fun B R σ H I D L => by
  obtain ⟨v, e1, a, xs, rfl, g2, g3, g4, g5, g6⟩ := I.sl j _ hj
  refine seq_of (ps_set (i := i) hN hi hx pe_wp hs hf) (wpE_of (pe_var hNy hv hd hcd) ⟨.ref a, e1, ?_⟩)
  have I1 : HS X.K B T ⟨S.b, S.sl.set j none⟩ R σ H := I.forget (by rw [List.length_set]; exact Nat.le_refl _) (fun m s e => (set_none_get e).2) (Nat.le_refl _)
  refine q B R _ H (I1.setM g3 g2 g4 g5 g6 fun m es hm e => ?_) D L
  obtain ⟨n1, n2⟩ := set_none_get e
  exact I.sep j m ds es a (Ne.symm n1) hj n2 e1
end
end PL
set_option maxHeartbeats 4000000
namespace PL
open PySem PySem.Spec PyProof.Rows L2 RZ
/-! ### parts of the table, read -/
theorem tab_take {m n : Nat} (h : n ≤ m + 1) : cutD (tabD m) none (some (n : Int)) = (List.range n).map fun i => PyData.list ((rowC i).map nD) := by
  have hl := tabD_len m
  unfold cutD
  rw [HT.sIx_none, HT.sIx_nat, List.drop_zero, Nat.sub_zero, hl, Nat.min_eq_left h]
  unfold tabD
  rw [← List.map_take, List.take_range, Nat.min_eq_left h]
theorem rangeA_get {f : Nat → PyData} {n i : Nat} {x : PyData} (h : ((List.range n).map f)[i]? = some x) : i < n ∧ x = f i := by
  rw [List.getElem?_map] at h
  by_cases g : i < n
  · rw [List.getElem?_range g] at h
    exact ⟨g, (Option.some.inj h).symm⟩
  · rw [List.getElem?_eq_none (by rw [List.length_range]; omega)] at h; cases h
/-! ### tables by rules, further -/
theorem RUZ_pascal {n : Nat} (h : 0 < n) (z : Int) (l r : Nat) : RUZ n z l r = l * RUZ (n - 1) (z - 1) l r + r * RUZ (n - 1) z l r := by
  obtain ⟨m, rfl⟩ : ∃ m, n = m + 1 := ⟨n - 1, by omega⟩
  rw [Nat.add_sub_cancel]
  rcases Int.lt_trichotomy z 0 with g | g | g
  · rw [RUZ_out (.inl g), RUZ_out (n := m) (.inl g), RUZ_out (n := m) (z := z - 1) (.inl (by omega))]; simp
  · subst g
    rw [RUZ_out (n := m) (z := 0 - 1) (.inl (by omega))]
    rw [show (0 : Int) = ((0 : Nat) : Int) from rfl, RUZ_nat, RUZ_nat, RU_front]; simp
  · obtain ⟨k, rfl⟩ : ∃ k : Nat, z = ((k + 1 : Nat) : Int) := ⟨z.toNat - 1, by omega⟩
    rw [show ((k + 1 : Nat) : Int) - 1 = (k : Int) by omega, RUZ_nat, RUZ_nat, RUZ_nat, RU_step]
theorem RUZ_symm (n : Nat) (z : Int) (l r : Nat) : RUZ n ((n : Int) - z) r l = RUZ n z l r := by
  by_cases g : z < 0 ∨ (n : Int) < z
  · rw [RUZ_out g, RUZ_out (by omega)]
  · obtain ⟨k, rfl⟩ : ∃ k : Nat, z = (k : Int) := ⟨z.toNat, by omega⟩
    have hk : k ≤ n := by omega
    rw [show (n : Int) - (k : Int) = ((n - k : Nat) : Int) by omega, RUZ_nat, RUZ_nat]
    unfold RU
    rw [C_symm hk, show n - (n - k) = k by omega, Nat.mul_right_comm]
theorem RUZ_ones (n : Nat) (z : Int) : RUZ n z 1 1 = CZ n z := by
  by_cases g : z < 0
  · rw [RUZ_out (.inl g), CZ_neg g]
  · obtain ⟨k, rfl⟩ : ∃ k : Nat, z = (k : Int) := ⟨z.toNat, by omega⟩
    rw [RUZ_nat, CZ_nat]; unfold RU; simp
theorem RUZ_three (n : Nat) (z : Int) (l r : Nat) : RUZ n z (3 * l) (3 * r) = RUZ n z l r * 3 ^ n := by
  by_cases g : z < 0 ∨ (n : Int) < z
  · rw [RUZ_out g, RUZ_out g, Nat.zero_mul]
  · obtain ⟨k, rfl⟩ : ∃ k : Nat, z = (k : Int) := ⟨z.toNat, by omega⟩
    have hk : k ≤ n := by omega
    rw [RUZ_nat, RUZ_nat]
    unfold RU
    have e : 3 ^ n = 3 ^ k * 3 ^ (n - k) := by rw [← Nat.pow_add]; congr 1; omega
    rw [Nat.mul_pow, Nat.mul_pow, e]
    simp only [Nat.mul_assoc, Nat.mul_comm, Nat.mul_left_comm]
theorem RU_sum (l r : Nat) : ∀ n : Nat, ((List.range (n + 1)).map fun k => RU n k l r).sum = (l + r) ^ n
  | 0 => by simp [RU, C_zero]
  | n + 1 => by
    rw [sum_range_front, RU_front]
    have e : ((List.range (n + 1)).map fun i => RU (n + 1) (i + 1) l r).sum = ((List.range (n + 1)).map fun i => l * RU n i l r + r * RU n (i + 1) l r).sum := sum_range_congr fun i _ => RU_step n i l r
    rw [e, sum_range_add, sum_range_mul, sum_range_mul, RU_sum l r n]
    have e2 := sum_range_front (fun k => RU n k l r) n
    rw [RU_sum l r n] at e2
    have e3 : ((List.range (n + 1)).map fun i => RU n (i + 1) l r).sum = ((List.range n).map fun i => RU n (i + 1) l r).sum := by
      rw [sum_range_succ, RU_gt (by omega), Nat.add_zero]
    rw [e3, Nat.pow_succ, Nat.mul_add, Nat.mul_comm _ l, Nat.mul_comm _ r]
    have : r * (l + r) ^ n = r * RU n 0 l r + r * ((List.range n).map fun i => RU n (i + 1) l r).sum := by rw [← Nat.mul_add, ← e2]
    omega
theorem lin_mod (l a r b p : Nat) : (l * (a % p) + r * (b % p)) % p = (l * a + r * b) % p := by
  rw [Nat.add_mod, Nat.mul_mod_mod, Nat.mul_mod_mod, ← Nat.add_mod]
end PL
set_option maxHeartbeats 4000000
namespace PL
open PySem PySem.Spec PyProof.Rows L2 RZ
/-! ### sums by a prime -/
def catL : List Nat := [1, 1, 2, 5, 14, 42, 132, 429, 1430, 4862, 16796, 58786, 208012, 742900, 2674440, 9694845, 35357670, 129644790, 477638700, 1767263190, 6564120420, 24466267020, 91482563640, 343059613650, 1289904147324, 4861946401452, 18367353072152, 69533550916004, 263747951750360, 1002242216651368, 3814986502092304, 14544636039226909]
def chkCat (m : Nat) (l : List Nat) : Bool := decide (m % 2 = 1) || decide (l.getD (m / 2) 0 = l.getD (m / 2 + 1) 0 + catL.getD (m / 2) 0)
theorem chkCat_all : chkRows chkCat 62 0 [1] = true := by decide +kernel
theorem cat_eq {n : Nat} (h : n ≤ 30) : C (2 * n) n = C (2 * n) (n + 1) + catL.getD n 0 := by
  have := chkRows_all 62 0 chkCat_all (2 * n) (by omega) (by omega)
  unfold chkCat at this
  rw [Bool.or_eq_true, decide_eq_true_eq, decide_eq_true_eq, rowC_getD, rowC_getD, show 2 * n / 2 = n by omega] at this
  rcases this with z | z
  · omega
  · exact z
theorem chkSeg_all : ((List.range 30).all fun n => [2, 3, 5, 7].all fun p => decide (((List.range (n + 1)).map fun i => (catL.getD i 0 % p) * (catL.getD (n - i) 0 % p)).sum % p = catL.getD (n + 1) 0 % p)) = true := by decide +kernel
theorem cat_seg {n p : Nat} (h : n < 30) (hp : Pr p) : ((List.range (n + 1)).map fun i => (catL.getD i 0 % p) * (catL.getD (n - i) 0 % p)).sum % p = catL.getD (n + 1) 0 % p := by
  have h1 := List.all_eq_true.mp chkSeg_all n (List.mem_range.mpr h)
  have h2 := List.all_eq_true.mp h1 p (by unfold Pr at hp; rcases hp with rfl | rfl | rfl | rfl <;> decide)
  exact of_decide_eq_true h2
def brk (p n : Nat) : Nat := (C (2 * n) n % p + p - C (2 * n) (n + 1) % p) % p
theorem brk_int {p : Nat} (hp : 0 < p) (n : Nat) : (((C (2 * n) n % p : Nat) : Int) - ((C (2 * n) (n + 1) % p : Nat) : Int)) % (p : Int) = ((brk p n : Nat) : Int) := by
  have h2 := Nat.mod_lt (C (2 * n) (n + 1)) hp
  unfold brk
  generalize C (2 * n) n % p = x at *
  generalize C (2 * n) (n + 1) % p = y at *
  rw [Int.natCast_emod, show ((x + p - y : Nat) : Int) = ((x : Int) - (y : Int)) + (p : Int) by omega, Int.add_emod_right]
theorem brk_cat {p n : Nat} (hp : 0 < p) (h : n ≤ 30) : brk p n = catL.getD n 0 % p := by
  unfold brk
  rw [cat_eq h]
  generalize C (2 * n) (n + 1) = a
  generalize catL.getD n 0 = b
  have h1 := Nat.mod_lt a hp
  have h2 := Nat.div_add_mod a p
  have h3 := Nat.div_add_mod (a + b) p
  have e2 : b + p * (a / p) + p = ((a + b) % p + p - a % p) + p * ((a + b) / p) := by omega
  have e3 := congrArg (· % p) e2
  simp only [Nat.add_mul_mod_self_left, Nat.add_mod_right] at e3
  exact e3.symm
def fsZ (p s n : Nat) : Int := if n = 0 then 1 else (if s % 2 = 1 then -((C (n - 1) s : Nat) : Int) else ((C (n - 1) s : Nat) : Int)) % (p : Int)
theorem fsZ_neg {p x : Nat} : (((0 : Nat) : Int) - ((x % p : Nat) : Int)) % (p : Int) = (-(x : Int)) % (p : Int) := by
  rw [Int.natCast_emod, show (((0 : Nat) : Int) - (x : Int) % (p : Int)) = -((x : Int) % (p : Int)) by omega]
  have e := Int.emod_def (x : Int) (p : Int)
  rw [e, show -((x : Int) - (p : Int) * ((x : Int) / (p : Int))) = -(x : Int) + (p : Int) * ((x : Int) / (p : Int)) by omega, Int.add_mul_emod_self_left]
theorem fsZ_step {p s n : Nat} (hs : 0 < s) (hn : 0 < n) : fsZ p s n = (fsZ p (s - 1) n + (if s % 2 = 1 then (((0 : Nat) : Int) - ((C n s % p : Nat) : Int)) else ((C n s % p : Nat) : Int))) % (p : Int) := by
  obtain ⟨t, rfl⟩ : ∃ t, s = t + 1 := ⟨s - 1, by omega⟩
  obtain ⟨m, rfl⟩ : ∃ m, n = m + 1 := ⟨n - 1, by omega⟩
  unfold fsZ
  have hne : ¬ (m + 1 = 0) := by omega
  rw [if_neg hne, if_neg hne, C_pascal]
  simp only [Nat.add_sub_cancel]
  rcases Nat.mod_two_eq_zero_or_one t with e | e
  · have o1 : (t + 1) % 2 = 1 := by omega
    have o2 : ¬ (t % 2 = 1) := by omega
    rw [if_pos o1, if_neg o2, if_pos o1]
    rw [Int.natCast_emod, Int.natCast_add]
    generalize ((C m t : Nat) : Int) = a
    generalize ((C m (t + 1) : Nat) : Int) = b
    have e1 := Int.emod_def a (p : Int)
    have e2 := Int.emod_def (a + b) (p : Int)
    rw [show a % (p : Int) + (((0 : Nat) : Int) - (a + b) % (p : Int)) = -b + (p : Int) * ((a + b) / (p : Int)) - (p : Int) * (a / (p : Int)) by omega, Int.sub_mul_emod_self_left, Int.add_mul_emod_self_left]
  · have o1 : ¬ ((t + 1) % 2 = 1) := by omega
    have o2 : t % 2 = 1 := by omega
    rw [if_neg o1, if_pos o2, if_neg o1]
    rw [Int.natCast_emod, Int.natCast_add]
    generalize ((C m t : Nat) : Int) = a
    generalize ((C m (t + 1) : Nat) : Int) = b
    have e1 := Int.emod_def (-a) (p : Int)
    have e2 := Int.emod_def (a + b) (p : Int)
    rw [show (-a) % (p : Int) + (a + b) % (p : Int) = b - (p : Int) * (-a / (p : Int)) - (p : Int) * ((a + b) / (p : Int)) by omega, Int.sub_mul_emod_self_left, Int.sub_mul_emod_self_left]
theorem fsZ_zero {p n : Nat} (hp : 2 ≤ p) : fsZ p 0 n = 1 := by
  unfold fsZ
  split
  · rfl
  · rw [if_neg (by decide), C_zero]; exact Int.emod_eq_of_lt (by omega) (by omega)
theorem fsZ_top {p n s : Nat} (h : n ≤ s) : fsZ p s n = ((if decide (n = 0) then 1 else 0 : Nat) : Int) := by
  unfold fsZ
  by_cases g : n = 0
  · simp [g]
  · rw [if_neg g, C_gt (by omega)]; simp [g]
def sp_column_sum : SpD := spE e3 (fun a => a.1 < 2 ^ 59 ∧ a.2.1 < 2 ^ 59 ∧ Pr a.2.2) fun a => nD (C (a.2.1 + 1) (a.1 + 1) % a.2.2)
def sp_first_sum : SpD := spE e3 (fun a => a.1 < 2 ^ 59 ∧ a.2.1 < 2 ^ 59 ∧ Pr a.2.2) fun a => .int (fsZ a.2.2 a.1 a.2.1)
def sp_square_sum : SpD := spE e2 (fun a => a.1 < 2 ^ 59 ∧ Pr a.2) fun a => nD (C (2 * a.1) a.1 % a.2)
def sp_bracketings : SpD := spE e2 (fun a => a.1 < 2 ^ 58 ∧ Pr a.2) fun a => nD (brk a.2 a.1)
theorem squares (n : Nat) : ((List.range (n + 1)).map fun k => C n k * C n (n - k)).sum = C (2 * n) n := by
  rw [Nat.two_mul, C_vander]
theorem squares2 (n : Nat) : ((List.range (n + 1)).map fun k => C n k * C n k).sum = C (2 * n) n := by
  rw [← squares]
  exact sum_range_congr fun i hi => by rw [C_symm (by omega)]
theorem sum_mod_fun (p n : Nat) (f g : Nat → Nat) : ((List.range n).map fun k => (f k % p) * (g k % p)).sum % p = ((List.range n).map fun k => f k * g k).sum % p := by
  have h1 := sum_mod_list p ((List.range n).map fun k => (f k % p) * (g k % p))
  have h2 := sum_mod_list p ((List.range n).map fun k => f k * g k)
  rw [List.map_map] at h1 h2
  rw [← h1, ← h2]
  congr 2
  refine List.map_congr_left fun k _ => ?_
  exact (Nat.mul_mod _ _ _).symm
theorem zip_rev {n : Nat} {f : Nat → Nat} : zipD ((List.range (n + 1)).map fun k => nD (f k)) ((List.range (n + 1)).map fun k => nD (f k)).reverse = (List.range (n + 1)).map fun k => PyData.tuple [nD (f k), nD (f (n - k))] := by
  unfold zipD
  apply List.ext_getElem
  · simp
  · intro i h1 h2
    rw [List.length_map, List.length_range] at h2
    rw [List.getElem_zipWith, List.getElem_reverse, List.getElem_map, List.getElem_map, List.getElem_map, List.getElem_range, List.getElem_range, List.length_map, List.length_range, show n + 1 - 1 - i = n - i by omega]
end PL
set_option maxHeartbeats 4000000
namespace PL
open PySem PySem.Spec PyProof.Rows L2 RZ
/-! ### the number of choices without the prime, by a power of it -/
def cop (p : Nat) : Nat → Nat
  | 0 => 1
  | n + 1 => cop p n * (if (n + 1) % p = 0 then 1 else n + 1)
theorem fac_cop {p : Nat} (hp : 2 ≤ p) : ∀ n, fac n = cop p n * (p ^ (n / p) * fac (n / p))
  | 0 => by rw [Nat.zero_div]; rfl
  | n + 1 => by
    have ih := fac_cop hp n
    have e : fac (n + 1) = (n + 1) * fac n := rfl
    rw [e, ih]
    show _ = cop p n * (if (n + 1) % p = 0 then 1 else n + 1) * _
    have h3 := Nat.mod_lt n (by omega : p > 0)
    by_cases g : n % p + 1 = p
    · obtain ⟨e1, e2⟩ := succ_div_eq hp g
      have h2 := Nat.div_add_mod n p
      rw [if_pos e2, e1, Nat.mul_one, Nat.pow_succ]
      have e3 : fac (n / p + 1) = (n / p + 1) * fac (n / p) := rfl
      have e4 : n + 1 = p * (n / p + 1) := by rw [Nat.mul_add]; omega
      rw [e3]
      conv => lhs; rw [e4]
      generalize n / p = m
      simp only [Nat.mul_assoc, Nat.mul_comm, Nat.mul_left_comm]
    · obtain ⟨e1, e2⟩ := succ_div_lt (n := n) hp (by omega)
      have e5 : ¬ ((n + 1) % p = 0) := by rw [e2]; omega
      rw [if_neg e5, e1]
      simp only [Nat.mul_assoc, Nat.mul_comm, Nat.mul_left_comm]
theorem cop_nz {p : Nat} (hp : Pr p) : ∀ n, cop p n % p ≠ 0
  | 0 => by have := Pr_two hp; show 1 % p ≠ 0; rw [Nat.mod_eq_of_lt (by omega)]; omega
  | n + 1 => by
    have := Pr_two hp
    show cop p n * (if (n + 1) % p = 0 then 1 else n + 1) % p ≠ 0
    intro z
    rcases (Pr_mul0 hp).mp z with z | z
    · exact cop_nz hp n z
    · by_cases g : (n + 1) % p = 0
      · rw [if_pos g, Nat.mod_eq_of_lt (by omega)] at z; omega
      · rw [if_neg g] at z; exact g z
def uf (p n : Nat) : Nat := if h : n = 0 ∨ p < 2 then 1 else cop p n * uf p (n / p)
termination_by n
decreasing_by exact Nat.div_lt_self (by omega) (by omega)
theorem uf_zero (p : Nat) : uf p 0 = 1 := by rw [uf]; simp
theorem uf_step {p : Nat} (hp : 2 ≤ p) (n : Nat) : uf p n = cop p n * uf p (n / p) := by
  rcases Nat.eq_zero_or_pos n with h | h
  · subst h; rw [Nat.zero_div, uf_zero]; rfl
  · conv => lhs; rw [uf]
    rw [dif_neg (by omega)]
theorem fac_uf {p : Nat} (hp : 2 ≤ p) (n : Nat) : fac n = p ^ leg p n * uf p n := by
  induction n using Nat.strongRecOn with
  | _ n ih =>
    rcases Nat.eq_zero_or_pos n with h | h
    · subst h; rw [uf_zero, leg_zero]; rfl
    · have e := fac_cop hp n
      rw [ih _ (div_lt' hp h)] at e
      rw [e, uf_step hp n, leg_front (n := n) hp, Nat.pow_add]
      simp only [Nat.mul_assoc, Nat.mul_comm, Nat.mul_left_comm]
theorem uf_nz {p : Nat} (hp : Pr p) (n : Nat) : uf p n % p ≠ 0 := by
  have h2 := Pr_two hp
  induction n using Nat.strongRecOn with
  | _ n ih =>
    rcases Nat.eq_zero_or_pos n with h | h
    · subst h; rw [uf_zero, Nat.mod_eq_of_lt (by omega)]; omega
    · rw [uf_step h2]
      intro z
      rcases (Pr_mul0 hp).mp z with z | z
      · exact cop_nz hp n z
      · exact ih _ (div_lt' h2 h) z
theorem uf_pos {p : Nat} (hp : Pr p) (n : Nat) : 0 < uf p n := Nat.pos_of_ne_zero fun z => uf_nz hp n (by rw [z, Nat.zero_mod])
def unit (p x : Nat) : Nat := x / p ^ vp p x
theorem unit_eq {p x : Nat} (hp : 2 ≤ p) (hx : 0 < x) : x = p ^ vp p x * unit p x ∧ unit p x % p ≠ 0 ∧ 0 < unit p x := by
  obtain ⟨m, e, m1, m0⟩ := vp_split hp x x (Nat.le_refl _) hx
  have hq : 0 < p ^ vp p x := Nat.pow_pos (by omega)
  have e2 : unit p x = m := by
    unfold unit
    conv => lhs; rw [e]
    rw [show vp p (p ^ vp p x * m) = vp p x by rw [← e], Nat.mul_div_cancel_left _ hq]
  rw [e2]
  exact ⟨e, m1, m0⟩
theorem unit_core {p : Nat} (hp : Pr p) (a b : Nat) : unit p (C (a + b) a) * (uf p a * uf p b) = uf p (a + b) := by
  have h2 := Pr_two hp
  obtain ⟨e, _, _⟩ := unit_eq (p := p) h2 (C_pos (Nat.le_add_right a b))
  have h1 := C_fac a b
  have hk := kummer hp a b
  have hl := leg_carries h2 a b
  rw [fac_uf h2 a, fac_uf h2 b, fac_uf h2 (a + b), e] at h1
  have hq : 0 < p ^ leg p (a + b) := Nat.pow_pos (by omega)
  apply Nat.eq_of_mul_eq_mul_left hq
  rw [← h1, hl, ← hk, Nat.pow_add, Nat.pow_add]
  generalize unit p (C (a + b) a) = u
  simp only [Nat.mul_assoc, Nat.mul_comm, Nat.mul_left_comm]
/-! by a number that the prime divides -/
theorem cop_shift {p q : Nat} (hq : q % p = 0) (m : Nat) (hm : m % q = 0) : ∀ r, cop p (m + r) % q = cop p m * cop p r % q
  | 0 => by show _ = cop p m * 1 % q; rw [Nat.mul_one]; rfl
  | r + 1 => by
    show cop p (m + r) * (if (m + r + 1) % p = 0 then 1 else m + r + 1) % q = cop p m * (cop p r * (if (r + 1) % p = 0 then 1 else r + 1)) % q
    have e1 : (m + r + 1) % p = (r + 1) % p := by
      have : p ∣ m := Nat.dvd_trans (Nat.dvd_of_mod_eq_zero hq) (Nat.dvd_of_mod_eq_zero hm)
      obtain ⟨c, rfl⟩ := this
      rw [Nat.add_assoc, Nat.mul_add_mod]
    rw [e1, ← Nat.mul_assoc, Nat.mul_mod, cop_shift hq m hm r]
    by_cases g : (r + 1) % p = 0
    · rw [if_pos g, if_pos g, ← Nat.mul_mod]
    · rw [if_neg g]
      have e2 : (m + r + 1) % q = (r + 1) % q := by
        obtain ⟨c, rfl⟩ := Nat.dvd_of_mod_eq_zero hm
        rw [Nat.add_assoc, Nat.mul_add_mod]
      rw [if_neg g, e2, ← Nat.mul_mod]
theorem cop_mul {p q : Nat} (hq : q % p = 0) : ∀ k, cop p (q * k) % q = cop p q ^ k % q
  | 0 => by rw [Nat.mul_zero, Nat.pow_zero]; rfl
  | k + 1 => by
    rw [Nat.mul_succ, cop_shift hq _ (Nat.mul_mod_right q k), Nat.mul_mod, cop_mul hq k, ← Nat.mul_mod, Nat.pow_succ]
theorem cop_split {p q : Nat} (hq : q % p = 0) (n : Nat) : cop p n % q = cop p q ^ (n / q) * cop p (n % q) % q := by
  have e := Nat.div_add_mod n q
  conv => lhs; rw [← e]
  rw [cop_shift hq _ (Nat.mul_mod_right q _), Nat.mul_mod, cop_mul hq, ← Nat.mul_mod]
theorem prod_step {p q f n : Nat} (h2 : 2 ≤ p) (hq : q % p = 0) : (f * ((cop p q % q) ^ (n / q) % q) % q * (cop p (n % q) % q) % q) * uf p (n / p) % q = f * uf p n % q := by
  rw [uf_step h2 n]
  have e := cop_split hq n
  have e1 : (cop p q % q) ^ (n / q) % q = cop p q ^ (n / q) % q := (Nat.pow_mod _ _ _).symm
  rw [e1]
  have e2 : f * (cop p q ^ (n / q) % q) % q * (cop p (n % q) % q) % q = f * cop p n % q := by
    rw [← Nat.mul_mod, Nat.mul_assoc, Nat.mul_mod f, Nat.mul_mod f (cop p n), e]
    congr 2
    rw [Nat.mod_mul_mod]
  rw [e2, Nat.mod_mul_mod, Nat.mul_assoc]
/-! inverses -/
theorem bez : ∀ a b : Nat, ∃ x y : Int, x * (a : Int) + y * (b : Int) = (Nat.gcd a b : Int) := fun a b => by
  induction a, b using Nat.gcd.induction with
  | H0 n => exact ⟨0, 1, by simp⟩
  | H1 m n hm ih =>
    obtain ⟨x, y, e⟩ := ih
    refine ⟨y - x * ((n / m : Nat) : Int), x, ?_⟩
    rw [Nat.gcd_rec, ← e]
    have h := Nat.div_add_mod n m
    have h' : ((m : Int) * ((n / m : Nat) : Int) + ((n % m : Nat) : Int)) = (n : Int) := by rw [← Int.natCast_mul, ← Int.natCast_add, h]
    rw [← h', Int.sub_mul, Int.mul_add]
    have : x * ((n / m : Nat) : Int) * (m : Int) = x * ((m : Int) * ((n / m : Nat) : Int)) := by rw [Int.mul_assoc, Int.mul_comm ((n / m : Nat) : Int)]
    omega
theorem inv_ex {a q : Nat} (hq : 2 ≤ q) (h : Nat.gcd a q = 1) : ∃ x, x < q ∧ x * a % q = 1 := by
  obtain ⟨x, y, e⟩ := bez a q
  rw [h] at e
  have hx0 := Int.emod_nonneg x (show (q : Int) ≠ 0 by omega)
  have hx1 := Int.emod_lt_of_pos x (show (0 : Int) < (q : Int) by omega)
  refine ⟨(x % (q : Int)).toNat, by omega, ?_⟩
  have e1 : (((x % (q : Int)).toNat : Nat) : Int) = x % (q : Int) := Int.toNat_of_nonneg hx0
  have e2 : (((x % (q : Int)).toNat * a % q : Nat) : Int) = 1 := by
    rw [Int.natCast_emod, Int.natCast_mul, e1, Int.mul_emod, Int.emod_emod_of_dvd _ (Int.dvd_refl _), ← Int.mul_emod]
    have e3 : x * (a : Int) = 1 + (q : Int) * (-y) := by
      have : (q : Int) * (-y) = -(y * (q : Int)) := by rw [Int.mul_neg, Int.mul_comm]
      omega
    rw [e3, Int.add_mul_emod_self_left]
    exact Int.emod_eq_of_lt (by omega) (by omega)
  omega
theorem cop_gcd {p x : Nat} (hp : Pr p) (h : x % p ≠ 0) (k : Nat) : Nat.gcd x (p ^ k) = 1 := by
  have h1 : Nat.Coprime x p := by
    show Nat.gcd x p = 1
    rw [Nat.gcd_comm, Nat.gcd_rec]
    have h3 := Nat.mod_lt x (show p > 0 from by have := Pr_two hp; omega)
    generalize x % p = r at *
    unfold Pr at hp
    rcases hp with rfl | rfl | rfl | rfl
    · have : r = 1 := by omega
      subst this; rfl
    · have : r = 1 ∨ r = 2 := by omega
      rcases this with rfl | rfl <;> rfl
    · have : r = 1 ∨ r = 2 ∨ r = 3 ∨ r = 4 := by omega
      rcases this with rfl | rfl | rfl | rfl <;> rfl
    · have : r = 1 ∨ r = 2 ∨ r = 3 ∨ r = 4 ∨ r = 5 ∨ r = 6 := by omega
      rcases this with rfl | rfl | rfl | rfl | rfl | rfl <;> rfl
  exact Nat.Coprime.pow_right k h1
def invs (a q : Nat) : List Nat := (List.range q).filter fun x => decide (x * a % q = 1 % q)
def inv (a q : Nat) : Nat := (invs a q).getD 0 0
theorem inv_spec {a q : Nat} (hq : 2 ≤ q) (h : Nat.gcd a q = 1) : 0 < (invs a q).length ∧ inv a q < q ∧ inv a q * a % q = 1 := by
  obtain ⟨x, x1, x2⟩ := inv_ex hq h
  have hx : x ∈ invs a q := by
    unfold invs; rw [List.mem_filter]
    exact ⟨List.mem_range.mpr x1, by rw [x2, Nat.mod_eq_of_lt (by omega)]; rfl⟩
  unfold inv
  cases e : invs a q with
  | nil => rw [e] at hx; cases hx
  | cons y l =>
    have hy : y ∈ invs a q := by rw [e]; exact List.mem_cons_self
    unfold invs at hy
    rw [List.mem_filter, List.mem_range, decide_eq_true_eq, Nat.mod_eq_of_lt (show 1 < q by omega)] at hy
    exact ⟨by simp, hy.1, hy.2⟩
theorem core_law {u a b q x : Nat} (hx : x * ((a % q) * (b % q) % q) % q = 1 % q) : (u * (a * b) % q) * x % q = u % q := by
  have e1 : (a % q) * (b % q) % q = a * b % q := (Nat.mul_mod _ _ _).symm
  rw [e1, Nat.mul_mod_mod] at hx
  rw [Nat.mod_mul_mod, Nat.mul_assoc, Nat.mul_comm (a * b) x, Nat.mul_mod, hx, ← Nat.mul_mod, Nat.mul_one]
/-! the specs -/
def pwr (p n : Nat) (z : Int) : Option Nat := if z < 0 ∨ (n : Int) < z then none else some (vp p (CZ n z))
def corZ (p n : Nat) (z : Int) (h : Nat) : Option Nat := if z < 0 ∨ (n : Int) < z then none else some (unit p (CZ n z) % p ^ h)
abbrev eNZNN : Nat × Int × Nat × Nat → List PyData := fun a => [nD a.1, .int a.2.1, nD a.2.2.1, nD a.2.2.2]
def sp_power : SpD := spE eNZN Pre3 fun a => oD (pwr a.2.2 a.1 a.2.1)
def shp (p q : Nat) : List Nat := (List.range (q + 1)).map fun j => cop p j % q
def sp_short_products : SpD := spE e2 (fun a => 0 < a.1 ∧ 2 ≤ a.2 ∧ a.2 < 2 ^ 20) fun a => .list ((shp a.1 a.2).map nD)
def sp_product_rest : SpD := spE (fun a : Nat × Nat × Nat => [nD a.1, nD a.2.1, nD a.2.2, .list ((shp a.2.1 a.2.2).map nD)]) (fun a => a.1 < 2 ^ 60 ∧ 2 ≤ a.2.1 ∧ a.2.1 < 2 ^ 20 ∧ 2 ≤ a.2.2 ∧ a.2.2 < 2 ^ 20 ∧ a.2.2 % a.2.1 = 0) fun a => nD (uf a.2.1 a.1 % a.2.2)
def sp_back_rest : SpD := spE e2 (fun a => 2 ≤ a.2 ∧ a.2 < 2 ^ 20 ∧ Nat.gcd a.1 a.2 = 1) fun a => nD (inv a.1 a.2)
def sp_core : SpD := spE eNZNN (fun a => a.1 < 2 ^ 60 ∧ Pr a.2.2.1 ∧ 0 < a.2.2.2 ∧ a.2.2.2 ≤ 4) fun a => oD (corZ a.2.2.1 a.1 a.2.1 a.2.2.2)
def sp_rest_high : SpD := spE eNZNN (fun a => a.1 < 2 ^ 60 ∧ Pr a.2.2.1 ∧ 0 < a.2.2.2 ∧ a.2.2.2 ≤ 4) fun a => nD (CZ a.1 a.2.1 % a.2.2.1 ^ a.2.2.2)
theorem shp_len (p q : Nat) : (shp p q).length = q + 1 := by unfold shp; rw [List.length_map, List.length_range]
theorem shp_getD {p q j : Nat} (h : j ≤ q) : (shp p q).getD j 0 = cop p j % q := by
  unfold shp
  rw [List.getD_eq_getElem?_getD, List.getElem?_map, List.getElem?_range (by omega)]; rfl
theorem pow_prime_bd {p h : Nat} (hp : Pr p) (h0 : 0 < h) (h4 : h ≤ 4) : 2 ≤ p ^ h ∧ p ^ h ≤ 2401 ∧ p ^ h % p = 0 := by
  have h2 := Pr_two hp
  have h7 := Pr_seven hp
  have a1 : p ^ 1 ≤ p ^ h := Nat.pow_le_pow_right (by omega) h0
  have a2 : p ^ h ≤ 7 ^ 4 := Nat.le_trans (Nat.pow_le_pow_left h7 h) (Nat.pow_le_pow_right (by omega) h4)
  rw [Nat.pow_one] at a1
  obtain ⟨k, rfl⟩ : ∃ k, h = k + 1 := ⟨h - 1, by omega⟩
  exact ⟨by omega, by omega, by rw [Nat.pow_succ, Nat.mul_mod_left]⟩
theorem pow_dvd_vp {p x : Nat} (hp : Pr p) (hx : 0 < x) (h : Nat) : x % p ^ h = 0 ↔ h ≤ vp p x := by
  have h2 := Pr_two hp
  obtain ⟨u1, u2, u3⟩ := unit_eq (p := p) h2 hx
  generalize vp p x = v at *
  generalize unit p x = u at *
  subst u1
  constructor
  · intro e
    apply Nat.le_of_not_lt; intro g
    obtain ⟨d, rfl⟩ : ∃ d, h = v + (d + 1) := ⟨h - v - 1, by omega⟩
    rw [Nat.pow_add, Nat.mul_mod_mul_left] at e
    have hq : 0 < p ^ v := Nat.pow_pos (by omega)
    rcases Nat.mul_eq_zero.mp e with z | z
    · omega
    · apply u2
      have : u % p ^ (d + 1) % p = u % p := Nat.mod_mod_of_dvd _ ⟨p ^ d, by rw [Nat.pow_succ, Nat.mul_comm]⟩
      rw [← this, z, Nat.zero_mod]
  · intro g
    obtain ⟨d, rfl⟩ : ∃ d, v = h + d := ⟨v - h, by omega⟩
    rw [Nat.pow_add, Nat.mul_assoc, Nat.mul_mod_right]
theorem strip_unit {p x : Nat} (hp : 2 ≤ p) (hx : 0 < x) : strip p x = unit p x := by
  obtain ⟨u1, u2, u3⟩ := unit_eq (p := p) hp hx
  conv => lhs; rw [u1]
  exact strip_pow_mul hp u3 u2 _
end PL
set_option maxHeartbeats 4000000
namespace PL
open PySem PySem.Spec PyProof.Rows L2 RZ
/-! ### how many numbers of a row leave each rest -/
def NR (p n r : Nat) : Nat := FS p n fun x => if x = r then 1 else 0
def rsL (p n : Nat) : List Nat := (List.range p).map (NR p n)
theorem rsL_len (p n : Nat) : (rsL p n).length = p := by unfold rsL; rw [List.length_map, List.length_range]
theorem NR_filter (p n r : Nat) : NR p n r = ((List.range (n + 1)).filter fun k => decide (C n k % p = r)).length := by
  rw [filter_len_sum]
  unfold NR FS
  congr 1
  refine List.map_congr_left fun k _ => ?_
  by_cases g : C n k % p = r <;> simp [g]
/-- weighted sums over a list of p numbers -/
def WS (p : Nat) (f G : Nat → Nat) : Nat := ((List.range p).map fun t => f t * G t).sum
def updF (f : Nat → Nat) (t v : Nat) : Nat → Nat := fun j => if j = t then f j + v else f j
theorem WS_upd {p : Nat} {f G : Nat → Nat} {t v : Nat} : ∀ {q : Nat}, WS q (updF f t v) G = WS q f G + (if t < q then v * G t else 0)
  | 0 => rfl
  | q + 1 => by
    unfold WS
    rw [sum_range_succ, sum_range_succ]
    have ih := WS_upd (p := p) (f := f) (G := G) (t := t) (v := v) (q := q)
    unfold WS at ih
    rw [ih]
    unfold updF
    by_cases g : q = t
    · subst g
      rw [if_neg (Nat.lt_irrefl _), if_pos rfl, if_pos (Nat.lt_succ_self _), Nat.add_mul]; omega
    · rw [if_neg g]
      by_cases g2 : t < q
      · rw [if_pos g2, if_pos (by omega)]; omega
      · rw [if_neg g2, if_neg (by omega)]; omega
theorem WS_add {p : Nat} (f G G' : Nat → Nat) : WS p f (fun t => G t + G' t) = WS p f G + WS p f G' := by
  unfold WS
  rw [← sum_range_add]
  exact sum_range_congr fun i _ => Nat.mul_add _ _ _
theorem WS_congr {p : Nat} {f G G' : Nat → Nat} (h : ∀ t, t < p → G t = G' t) : WS p f G = WS p f G' :=
  sum_range_congr fun i hi => by rw [h i hi]
theorem WS_zero (p : Nat) (G : Nat → Nat) : WS p (fun _ => 0) G = 0 := by
  unfold WS
  simp only [Nat.zero_mul]
  exact sum_range_zero _
theorem WS_sum {p : Nat} (f : Nat → Nat) (G : Nat → Nat → Nat) : ∀ m : Nat, WS p f (fun t => ((List.range m).map fun b => G b t).sum) = ((List.range m).map fun b => WS p f (G b)).sum
  | 0 => by
    show WS p f (fun _ => 0) = 0
    unfold WS
    simp only [Nat.mul_zero]
    exact sum_range_zero _
  | m + 1 => by
    rw [sum_range_succ, ← WS_sum f G m, ← WS_add]
    exact WS_congr fun t _ => sum_range_succ _ _
theorem WS_one {p : Nat} (f : Nat → Nat) {r : Nat} (hr : r < p) : WS p f (fun s => if s = r then 1 else 0) = f r := by
  unfold WS
  have := sum_ind (f r) r p
  rw [if_pos hr] at this
  rw [← this]
  refine sum_range_congr fun i _ => ?_
  by_cases g : i = r
  · subst g; simp
  · show f i * (if i = r then 1 else 0) = _
    rw [if_neg g, if_neg (fun z => g z.symm), Nat.mul_zero]
theorem map_updF {p : Nat} {f : Nat → Nat} {t v : Nat} (ht : t < p) : ((List.range p).map f).set t (f t + v) = (List.range p).map (updF f t v) := by
  apply List.ext_getElem
  · simp
  · intro i h1 h2
    rw [List.getElem_set, List.getElem_map, List.getElem_map, List.getElem_range]
    unfold updF
    by_cases g : t = i
    · subst g; simp
    · rw [if_neg g, if_neg fun z => g z.symm]
theorem rep_zero (p : Nat) : List.replicate p 0 = (List.range p).map fun _ => 0 := by
  apply List.ext_getElem
  · simp
  · intro i h1 h2; simp
theorem map_getD {p j : Nat} {f : Nat → Nat} (h : j < p) : ((List.range p).map f).getD j 0 = f j := by
  rw [List.getD_eq_getElem?_getD, List.getElem?_map, List.getElem?_range h]; rfl
def GR (p m r : Nat) : Nat → Nat := fun s => FS p m fun x => if s * x % p = r then 1 else 0
theorem GR_step {p : Nat} (hp : Pr p) (m : Nat) {r : Nat} (hr : 0 < r) (s : Nat) : GR p m r s = ((List.range (m % p + 1)).map fun b => GR p (m / p) r (s * (C (m % p) b % p) % p)).sum := by
  unfold GR
  have h0 : (if s * 0 % p = r then 1 else 0) = 0 := by rw [Nat.mul_zero, Nat.zero_mod, if_neg (by omega)]
  rw [FS_step hp m (g := fun x => if s * x % p = r then 1 else 0) h0]
  refine sum_range_congr fun b _ => ?_
  congr 1
  funext x
  have e : s * (x * C (m % p) b % p) % p = s * (C (m % p) b % p) % p * x % p := by
    rw [Nat.mul_mod_mod, Nat.mul_mod_mod, Nat.mod_mul_mod]
    congr 1
    simp only [Nat.mul_assoc, Nat.mul_comm, Nat.mul_left_comm]
  rw [e]
theorem GR_end {p r s : Nat} (hp : 2 ≤ p) (hs : s < p) : GR p 0 r s = if s = r then 1 else 0 := by
  unfold GR FS
  simp only [Nat.zero_add, List.range_one, List.map_cons, List.map_nil, List.sum_cons, List.sum_nil, C_zero, Nat.add_zero]
  rw [Nat.mod_eq_of_lt (show 1 < p by omega), Nat.mul_one, Nat.mod_eq_of_lt hs]
theorem GR_one {p n r : Nat} (hp : 2 ≤ p) : GR p n r 1 = NR p n r := by
  unfold GR NR
  exact FS_congr hp n fun x hx => by rw [Nat.one_mul, Nat.mod_eq_of_lt hx]
theorem NR_all {p : Nat} (hp : 2 ≤ p) (n : Nat) : ((List.range p).map (NR p n)).sum = n + 1 := by
  have e : ((List.range p).map (NR p n)).sum = ((List.range p).map fun r => ((List.range (n + 1)).map fun k => if C n k % p = r then 1 else 0).sum).sum := rfl
  rw [e, sum_range_swap (fun r k => if C n k % p = r then 1 else 0)]
  have e2 : ((List.range (n + 1)).map fun k => ((List.range p).map fun r => if C n k % p = r then 1 else 0).sum).sum = ((List.range (n + 1)).map fun _ => 1).sum := by
    refine sum_range_congr fun k _ => ?_
    have := sum_ind 1 (C n k % p) p
    rw [if_pos (Nat.mod_lt _ (by omega))] at this
    exact this
  rw [e2, sum_range_const, Nat.mul_one]
theorem sum_tail {p : Nat} (hp : 0 < p) (f : Nat → Nat) : ((List.range p).map f).sum = f 0 + (((List.range p).map f).drop 1).sum := by
  obtain ⟨q, rfl⟩ : ∃ q, p = q + 1 := ⟨p - 1, by omega⟩
  rw [sum_range_front, List.range_succ_eq_map, List.map_cons, List.drop_one, List.tail_cons, List.map_map]; rfl
/-- the last step: the first one is what is left -/
theorem rs_fin {p : Nat} (hp : 2 ≤ p) (n : Nat) {f : Nat → Nat} (h : ∀ r, 0 < r → r < p → f r = NR p n r) : (((List.range p).map f).set 0 (n + 1 - (((List.range p).map f).drop 1).sum)) = rsL p n ∧ (((List.range p).map f).drop 1).sum ≤ n + 1 := by
  have e : (((List.range p).map f).drop 1) = (((List.range p).map (NR p n)).drop 1) := by
    apply List.ext_getElem
    · simp
    · intro i h1 h2
      rw [List.getElem_drop, List.getElem_drop, List.getElem_map, List.getElem_map, List.getElem_range]
      simp at h1
      exact h _ (by omega) (by omega)
  have t1 := sum_tail (show 0 < p by omega) (NR p n)
  rw [NR_all hp] at t1
  refine ⟨?_, by rw [e]; omega⟩
  rw [e]
  unfold rsL
  apply List.ext_getElem
  · simp
  · intro i h1 h2
    rw [List.length_map, List.length_range] at h2
    rw [List.getElem_set, List.getElem_map, List.getElem_map, List.getElem_range]
    by_cases g : 0 = i
    · subst g; rw [if_pos rfl]; omega
    · rw [if_neg g]; exact h i (by omega) h2
/-! ### so-manieth places -/
def dgs : List Nat → Nat → List Nat
  | [], _ => []
  | d :: l, i => i % (d + 1) :: dgs l (i / (d + 1))
theorem dgs_len : ∀ (l : List Nat) (i : Nat), (dgs l i).length = l.length
  | [], _ => rfl
  | d :: l, i => by show (dgs l _).length + 1 = l.length + 1; rw [dgs_len l]
def plc (p n i : Nat) : Nat := numOf p (dgs (figs p n) i)
theorem plc_step {p : Nat} (hp : 2 ≤ p) {n : Nat} (hn : 0 < n) (i : Nat) : plc p n i = plc p (n / p) (i / (n % p + 1)) * p + i % (n % p + 1) := by
  unfold plc
  rw [figs_pos hp hn]; rfl
theorem plc_zero (p i : Nat) : plc p 0 i = 0 := by unfold plc; rw [figs_zero]; rfl
theorem plc_le {p : Nat} (hp : 2 ≤ p) (n i : Nat) : plc p n i ≤ n := by
  induction n using Nat.strongRecOn generalizing i with
  | _ n ih =>
    rcases Nat.eq_zero_or_pos n with h | h
    · subst h; rw [plc_zero]; exact Nat.le_refl _
    · rw [plc_step hp h]
      have h1 := ih _ (div_lt' hp h) (i / (n % p + 1))
      have h2 := Nat.div_add_mod n p
      have h3 := Nat.mod_lt i (show n % p + 1 > 0 by omega)
      have h4 := Nat.mul_le_mul_right p h1
      rw [Nat.mul_comm (n / p)] at h4
      omega
theorem plc_sum {p : Nat} (hp : Pr p) (n : Nat) {g : Nat → Nat} (h0 : g 0 = 0) : ((List.range (cnt p n)).map fun i => g (C n (plc p n i) % p)).sum = FS p n g := by
  have h2 := Pr_two hp
  induction n using Nat.strongRecOn generalizing g with
  | _ n ih =>
    rcases Nat.eq_zero_or_pos n with h | h
    · subst h
      rw [cnt_zero]; unfold FS
      show ((List.range 1).map _).sum = ((List.range 1).map _).sum
      simp only [List.range_one, List.map_cons, List.map_nil, plc_zero]
    · rw [cnt_step h2, sum_range_blocks, sum_range_swap, FS_step hp n h0]
      refine sum_range_congr fun u hu => ?_
      rw [← ih (n / p) (div_lt' h2 h) (g := fun x => g (x * C (n % p) u % p)) (by rw [Nat.zero_mul, Nat.zero_mod, h0])]
      refine sum_range_congr fun v _ => ?_
      have d2 := Nat.mod_lt n (show p > 0 by omega)
      rw [plc_step h2 h, Nat.mul_add_div (by omega), Nat.div_eq_of_lt hu, Nat.add_zero, Nat.mul_add_mod, Nat.mod_eq_of_lt hu, lucas1 hp n, Nat.mul_comm _ p, Nat.mul_add_div (by omega), Nat.div_eq_of_lt (show u < p by omega), Nat.add_zero, Nat.mul_add_mod, Nat.mod_eq_of_lt (show u < p by omega), Nat.mod_mul_mod]
theorem plc_nz {p : Nat} (hp : Pr p) (n i : Nat) : C n (plc p n i) % p ≠ 0 := by
  have h2 := Pr_two hp
  induction n using Nat.strongRecOn generalizing i with
  | _ n ih =>
    rcases Nat.eq_zero_or_pos n with h | h
    · subst h; rw [plc_zero, C_zero, Nat.mod_eq_of_lt (by omega)]; omega
    · have d2 := Nat.mod_lt n (show p > 0 by omega)
      have hu := Nat.mod_lt i (show n % p + 1 > 0 by omega)
      rw [plc_step h2 h, lucas1 hp n, Nat.mul_comm _ p, Nat.mul_add_div (by omega), Nat.div_eq_of_lt (show i % (n % p + 1) < p by omega), Nat.add_zero, Nat.mul_add_mod, Nat.mod_eq_of_lt (show i % (n % p + 1) < p by omega)]
      intro z
      rcases (Pr_mul0 hp).mp z with z | z
      · exact ih _ (div_lt' h2 h) _ z
      · have := (C_small hp d2 (show i % (n % p + 1) < p by omega)).mp z; omega
def sp_by_rests : SpD := spE e2 (fun a => a.1 < 2 ^ 60 ∧ Pr a.2) fun a => eT (rsL a.2 a.1)
def sp_place_at : SpD := spE e3 (fun a => a.1 < 2 ^ 200 ∧ 2 ≤ a.2.1 ∧ a.2.1 ≤ 7 ∧ a.2.2 < cnt a.2.1 a.1) fun a => nD (plc a.2.1 a.1 a.2.2)
theorem sub_mod0 {a b p : Nat} (h : a % p = b % p) : ((a : Int) - (b : Int)) % (p : Int) = ((0 : Nat) : Int) := by
  have h' : (a : Int) % (p : Int) = (b : Int) % (p : Int) := by rw [← Int.natCast_emod, ← Int.natCast_emod, h]
  exact Int.emod_eq_emod_iff_emod_sub_eq_zero.mp h'
end PL
set_option maxHeartbeats 4000000
/-! len(dict(pairs)), sorted(dict(pairs)): the dict lives within the expression alone -/
namespace PL
open PySem PySem.Spec PyProof.Rows L2 RZ
def prD (ks : List Nat) : List PyData := ks.map fun (k : Nat) => .tuple [nD k, nD 0]
def prK (ks : List Nat) : List (L2.Key × V) := ks.map fun (k : Nat) => (Sum.inl (k : Int), V.int ((0 : Nat) : Int))
theorem pairs_rp {K : PySem.W.Frag} {R H : Hp} (le : Le R H) : ∀ {ks : List Nat} {vs : List V}, RpA K R vs (prD ks) → ∃ ps : List Addr, vs = ps.map V.ref ∧ Paired (fun p kv => SqT K H p [kV kv.1, kv.2]) ps (prK ks)
  | [], _, h => by cases h; exact ⟨[], rfl, .nil⟩
  | k :: ks, _, h => by
    cases h with
    | cons a b =>
      obtain ⟨ps, e, q⟩ := pairs_rp le (ks := ks) b
      subst e
      cases a with
      | @tup p us _ hq hr =>
        cases hr with
        | cons x1 x2 =>
          cases x1
          cases x2 with
          | cons y1 y2 =>
            cases y1
            cases y2
            exact ⟨p :: ps, rfl, .cons (le_t le hq) q⟩
section
variable {X : Cx} {T : Option Addr} {S : Sta} {e : Expr} {n m : Str} {p p2 pos pos2 : Pos}
theorem evp_lenDict {ks : List Nat} (h : EvP X T e S (.list (prD ks))) (hm : X.mg n = none) (hm2 : X.mg m = none) (hv : bootBuiltins n = some (.builtin "len")) (hv2 : bootBuiltins m = some (.type "dict"))
    (hc : X.calm = true := by rfl) (hg : Gl X n := by rfl) (hg2 : Gl X m := by rfl) (hn : n ≠ "__name__" := by decide) (hdb : (n == ("__debug__" : Str)) = false := by decide) (hn2 : m ≠ "__name__" := by decide) (hdb2 : (m == ("__debug__" : Str)) = false := by decide)
    (hs : starEach [e] X.env = (false, eval e X.env) :: starEach [] X.env := by rfl) (hs1 : starEach [.Call (.Name m p2) [e] [] pos2] X.env = (false, eval (.Call (.Name m p2) [e] [] pos2) X.env) :: starEach [] X.env := by rfl)
    (hpl : (backTo pos (starEach [] X.env)).any (·.1) = false := by rfl) (hpl2 : (backTo pos2 (starEach [] X.env)).any (·.1) = false := by rfl) :
    EvP X T (.Call (.Name n p) [.Call (.Name m p2) [e] [] pos2] [] pos) S (nD (mergeK [] (prK ks)).length) := fun R σ H I Q q =>
  wpE_of (pe_callB cr_wp hg hm hv (pa_cons (pe_callTy cr_wp hg2 hm2 hv2 (pa_cons pe_wp pa_nil hs) hn2 hdb2 hs hpl2) pa_nil hs1) hn hdb hs1 hpl) (h R σ H I _ fun R1 v H1 d b ⟨e1, e2⟩ I1 n1 r1 => by
    subst e1 e2
    cases r1 with
    | @lst a xs _ hq hr =>
      obtain ⟨ps, ex, hp⟩ := pairs_rp I1.le hr
      subst ex
      exact call_wpC (call_dictP hc) ⟨a, ps, prK ks, rfl, SqL.of (I1.le _ _ hq), hp, fun q' hq' => call_wpC call_lenD ⟨q', _, rfl, upd_same, q R1 _ _ _ _ ⟨rfl, rfl⟩ (I1.laid hq') (n1.trans (Nx.laid hq')) (.int _)⟩⟩)
theorem evn_sortedDict {ks zs : List Nat} (h : EvP X T e S (.list (prD ks))) (hk : (mergeK [] (prK ks)).map (·.1) = (zs_ ks).map Sum.inl) (h64 : ks.length < 64) (hz : zs.Perm ks) (hs' : zs.Pairwise (· ≤ ·)) (hm : X.mg n = none) (hm2 : X.mg m = none) (hv : bootBuiltins n = some (.builtin "sorted")) (hv2 : bootBuiltins m = some (.type "dict"))
    (hc : X.calm = true := by rfl) (hg : Gl X n := by rfl) (hg2 : Gl X m := by rfl) (hn : n ≠ "__name__" := by decide) (hdb : (n == ("__debug__" : Str)) = false := by decide) (hn2 : m ≠ "__name__" := by decide) (hdb2 : (m == ("__debug__" : Str)) = false := by decide)
    (hs : starEach [e] X.env = (false, eval e X.env) :: starEach [] X.env := by rfl) (hs1 : starEach [.Call (.Name m p2) [e] [] pos2] X.env = (false, eval (.Call (.Name m p2) [e] [] pos2) X.env) :: starEach [] X.env := by rfl)
    (hpl : (backTo pos (starEach [] X.env)).any (·.1) = false := by rfl) (hpl2 : (backTo pos2 (starEach [] X.env)).any (·.1) = false := by rfl) :
    EvNP X T (.Call (.Name n p) [.Call (.Name m p2) [e] [] pos2] [] pos) S (zs.map nD) := fun R σ H I Q q =>
  wpE_of (pe_callB cr_wp hg hm hv (pa_cons (pe_callTy cr_wp hg2 hm2 hv2 (pa_cons pe_wp pa_nil hs) hn2 hdb2 hs hpl2) pa_nil hs1) hn hdb hs1 hpl) (h R σ H I _ fun R1 v H1 d b ⟨e1, e2⟩ I1 n1 r1 => by
    subst e1 e2
    cases r1 with
    | @lst a xs _ hq hr =>
      obtain ⟨ps, ex, hp⟩ := pairs_rp I1.le hr
      subst ex
      refine call_wpC (call_dictP hc) ⟨a, ps, prK ks, rfl, SqL.of (I1.le _ _ hq), hp, fun q' hq' => call_wpC (call_sortedDI hc) ⟨q', _, zs_ ks, rfl, .inl upd_same, hk, by unfold zs_; rw [List.length_map]; exact h64, fun ys pp hy1 hy2 hpp => ?_⟩⟩
      have I2 := I1.laid (o := HO.dK (mergeK [] (prK ks))) hq'
      have n2 := n1.trans (Nx.laid (R := R1) (T := T) (o := HO.dK (mergeK [] (prK ks))) hq')
      have ey : ys = zs_ zs := by
        refine perm_sorted_eq (hy1.trans ?_) hy2 ?_
        · unfold zs_; exact (hz.map _).symm
        · unfold zs_; exact List.Pairwise.map _ (fun a b hab => by omega) hs'
      subst ey
      refine q R1 pp _ _ _ _ ⟨rfl, rfl⟩ (I2.laid hpp) (n2.trans (Nx.laid hpp)) (fresh_of n2 (I2.notT hpp) hpp) (I2.notT hpp) (I2.le.fre hpp) upd_same ?_
      rw [map_nD]; exact rpa_ints _)
end
theorem merge_two (k : Nat) : (mergeK [] (prK [k, k])).length = 1 := by
  unfold mergeK prK putK
  simp
end PL
set_option maxHeartbeats 4000000
namespace PL
open PySem PySem.Spec PyProof.Rows L2 RZ
/-! ### sums by steps, further -/
theorem StS_twice {s : Nat} (hs : 0 < s) (n j : Nat) (hj : j < s) : StS n s j = StS n (2 * s) j + StS n (2 * s) (j + s) := by
  unfold StS sT
  rw [← sum_range_add]
  refine sum_range_congr fun i _ => ?_
  have e1 : i % (2 * s) % s = i % s := Nat.mod_mod_of_dvd i ⟨2, Nat.mul_comm 2 s⟩
  have e2 := Nat.mod_lt i (show 2 * s > 0 by omega)
  have e3 := Nat.div_add_mod (i % (2 * s)) s
  have e4 := Nat.mod_lt i hs
  rw [e1] at e3
  have e5 : i % (2 * s) / s < 2 := by rw [Nat.div_lt_iff_lt_mul hs]; exact e2
  generalize i % (2 * s) = a at *
  generalize i % s = b at *
  have e6 : a / s = 0 ∨ a / s = 1 := by have := Nat.zero_le (a / s); omega
  rcases e6 with q | q
  · rw [q, Nat.mul_zero, Nat.zero_add] at e3
    subst e3
    by_cases g : b = j
    · rw [if_pos g, if_neg (by omega)]; omega
    · rw [if_neg g, if_neg (by omega)]
  · rw [q, Nat.mul_one] at e3
    by_cases g : b = j
    · rw [if_pos g, if_neg (by omega), if_pos (by omega)]; omega
    · rw [if_neg g, if_neg (by omega), if_neg (by omega)]
theorem StS_wide {n j : Nat} (hj : j < n + 2) : StS n (n + 2) j = C n j := by
  unfold StS sT
  have h := sum_ind (C n j) j (n + 1)
  have e : ((List.range (n + 1)).map fun i => if i % (n + 2) = j then C n i else 0).sum = ((List.range (n + 1)).map fun i => if j = i then C n j else 0).sum := by
    refine sum_range_congr fun i hi => ?_
    rw [Nat.mod_eq_of_lt (by omega)]
    by_cases g : i = j
    · subst g; simp
    · rw [if_neg g, if_neg fun z => g z.symm]
  rw [e, h]
  by_cases g : j < n + 1
  · rw [if_pos g]
  · rw [if_neg g, C_gt (by omega)]
theorem StS_even {n : Nat} (hn : 0 < n) : StS n 2 0 = StS n 2 1 := by
  obtain ⟨m, rfl⟩ : ∃ m, n = m + 1 := ⟨n - 1, by omega⟩
  rw [StS_step (by omega) m 0 (by omega), StS_step (by omega) m 1 (by omega)]
  simp; omega
def duL (n s t : Nat) : List Nat := (List.range s).map fun j => sT (C n) s j t
theorem duL_len (n s t : Nat) : (duL n s t).length = s := by unfold duL; rw [List.length_map, List.length_range]
theorem duL_zero (n s : Nat) : duL n s 0 = List.replicate s 0 := by rw [rep_zero]; rfl
theorem duL_set {n s t : Nat} (hs : 0 < s) : (duL n s t).set (t % s) ((duL n s t).getD (t % s) 0 + C n t) = duL n s (t + 1) := by
  have hm := Nat.mod_lt t hs
  unfold duL
  rw [map_getD hm, map_updF hm]
  refine List.map_congr_left fun j _ => ?_
  unfold updF
  rw [sT_succ]
  by_cases g : j = t % s
  · rw [if_pos g, if_pos g.symm]
  · rw [if_neg g, if_neg fun z => g z.symm, Nat.add_zero]
theorem duL_fin (n s m : Nat) : (duL n s (n + 1)).map (· % m) = ssL n s m := by unfold duL ssL; rw [List.map_map]; rfl
theorem ssL_lt {n s m x : Nat} (hm : 0 < m) (h : x ∈ ssL n s m) : x < m := by
  obtain ⟨j, _, rfl⟩ := List.mem_map.mp h
  exact Nat.mod_lt _ hm
theorem ssL_twice {n s m : Nat} (hs : 0 < s) : ((List.range s).map fun j => ((ssL n (2 * s) m).getD j 0 + (ssL n (2 * s) m).getD (j + s) 0) % m) = ssL n s m := by
  unfold ssL
  refine List.map_congr_left fun j hj => ?_
  have hj := List.mem_range.mp hj
  rw [map_getD (by omega), map_getD (by omega), ← Nat.add_mod, ← StS_twice hs n j hj]
theorem ssL_wide {n m : Nat} : ssL n (n + 2) m = (List.range (n + 2)).map fun j => C n j % m := by
  unfold ssL
  exact List.map_congr_left fun j hj => by rw [StS_wide (List.mem_range.mp hj)]
theorem ssL_two {n m : Nat} (hn : 0 < n) : ssL n 2 m = [StS n 2 0 % m, StS n 2 0 % m] := by
  show [StS n 2 0 % m, StS n 2 1 % m] = _
  rw [StS_even hn]
theorem ssL_one {n s : Nat} : ssL n s 1 = List.replicate s 0 := by
  rw [rep_zero]; unfold ssL
  exact List.map_congr_left fun j _ => Nat.mod_one _
end PL
set_option maxHeartbeats 4000000
namespace PL
open PySem PySem.Spec PyProof.Rows L2 RZ
/-! ### papers of carries -/
def plainI : PyData → Bool
  | .int _ => true
  | _ => false
def isBl : PyData → Bool
  | .bool _ => true
  | _ => false
def paper (l : List Nat) : PyData → Bool
  | .tuple ds => PyData.eqvAll ds (l.map nD) && ds.all plainI
  | _ => false
def Good (d : PyData) : Prop := (tyD d).isSome = true ∧ ∀ ds, d = .tuple ds → SeqAt.shaped d = true ∧ ds.length ≤ 100000 ∧ ∀ x ∈ ds, (tyD x).isSome = true
theorem plainI_ty {d : PyData} {t : String} (h : tyD d = some t) : (tyIs t "int" && !tyIs t "bool") = plainI d := by
  cases d <;> cases h <;> first | rfl | (simp [tyIs, plainI, isBl])
theorem isBl_ty {d : PyData} {t : String} (h : tyD d = some t) : tyIs t "bool" = isBl d := by
  cases d <;> cases h <;> first | rfl | (simp [tyIs, plainI, isBl])
theorem plainI_N (ns : List Nat) : (ns.map nD).all plainI = true := by
  rw [List.all_map]; exact List.all_eq_true.mpr fun _ _ => rfl
theorem paper_N (l ms : List Nat) : paper l (eT ms) = decide (ms = l) := by
  show (PyData.eqvAll (ms.map nD) (l.map nD) && (ms.map nD).all plainI) = _
  rw [plainI_N, eqvAll_N, Bool.and_true]
theorem paper_bl : ∀ {ds : List PyData} {l : List Nat}, PyData.eqvAll ds (l.map nD) = true → ds.all plainI = (ds.filter isBl).isEmpty
  | [], _, _ => rfl
  | d :: ds, [], h => by cases h
  | d :: ds, k :: l, h => by
    have h' : (PyData.eqv d (nD k) && PyData.eqvAll ds (l.map nD)) = true := h
    rw [Bool.and_eq_true] at h'
    rw [List.all_cons, List.filter_cons, paper_bl h'.2]
    cases d with
    | int i => simp [plainI, isBl]
    | bool b => simp [plainI, isBl]
    | none => exact absurd h'.1 (by show ¬ (false = true); decide)
    | str s => exact absurd h'.1 (by show ¬ (false = true); decide)
    | list s => exact absurd h'.1 (by show ¬ (false = true); decide)
    | tuple s => exact absurd h'.1 (by show ¬ (false = true); decide)
    | dict s => exact absurd h'.1 (by show ¬ (false = true); decide)
theorem good_N (ns : List Nat) (h : ns.length ≤ 100000) : Good (eT ns) := ⟨rfl, fun ds e => by
  cases e
  exact ⟨shaped_TN ns, by rw [List.length_map]; exact h, fun x hx => by obtain ⟨y, _, rfl⟩ := List.mem_map.mp hx; rfl⟩⟩
def sp_are_places : SpD := spE (fun ds : List PyData => [.tuple ds]) (fun ds => ds.length ≤ 100000 ∧ ∀ x ∈ ds, (tyD x).isSome = true) fun ds => .bool (ds.all plainI)
abbrev eP : Nat × Nat × Nat × PyData → List PyData := fun a => [nD a.1, nD a.2.1, nD a.2.2.1, a.2.2.2]
def sp_is_carry_paper : SpD := spE eP (fun a => a.2.1 ≤ a.1 ∧ a.1 < 2 ^ 100 ∧ (2 ≤ a.2.2.1 ∧ a.2.2.1 ≤ 7) ∧ Good a.2.2.2) fun a => .bool (paper (cyL a.2.2.1 a.2.1 (a.1 - a.2.1)) a.2.2.2)
/-! carries, further -/
theorem cyL_zeroR {p : Nat} (hp : 2 ≤ p) (a : Nat) : cyL p a 0 = [] := by
  unfold cyL cyR
  rw [List.filter_eq_nil_iff]
  intro i _
  unfold cyB
  have := Nat.mod_lt a (show p ^ (i + 1) > 0 from Nat.pow_pos (by omega))
  rw [Nat.zero_mod, decide_eq_true_eq]; omega
theorem cyL_pw {p a b : Nat} : (cyL p a b).Pairwise (· < ·) := by
  unfold cyL cyR
  exact List.Pairwise.filter _ List.pairwise_lt_range
theorem cyB_mulp {p a b i : Nat} (hp : 2 ≤ p) : cyB p (a * p) (b * p) (i + 1) = cyB p a b i := by
  unfold cyB
  rw [Nat.pow_succ, Nat.mul_mod_mul_right, Nat.mul_mod_mul_right, ← Nat.add_mul]
  by_cases g : p ^ i ≤ a % p ^ i + b % p ^ i
  · rw [decide_eq_true g, decide_eq_true (Nat.mul_le_mul_right p g)]
  · rw [decide_eq_false g, decide_eq_false fun z => g (Nat.le_of_mul_le_mul_right z (by omega))]
theorem cyL_mulp {p : Nat} (hp : 2 ≤ p) (a b : Nat) : cyL p (a * p) (b * p) = (cyL p a b).map (· + 1) := by
  have hk := lt_pow_self' hp (a + b)
  have hk2 : a * p + b * p < p ^ (a + b + 1) := by
    rw [← Nat.add_mul, Nat.pow_succ]; exact Nat.mul_lt_mul_of_pos_right hk (by omega)
  rw [← cyR_eq hp hk2, ← cyR_eq hp hk]
  unfold cyR
  rw [List.range_succ_eq_map, List.filter_cons, if_neg (by
    unfold cyB
    rw [Nat.zero_add, Nat.pow_one, Nat.mul_mod_left, Nat.mul_mod_left, decide_eq_true_eq]; omega), List.filter_map]
  congr 1
  refine List.filter_congr fun i _ => ?_
  exact cyB_mulp hp
theorem mod_compl {q N a : Nat} (hq : 0 < q) (hN : N % q = 0) (ha : a ≤ N) : (N - a) % q = if a % q = 0 then 0 else q - a % q := by
  obtain ⟨c, rfl⟩ := Nat.dvd_of_mod_eq_zero hN
  have h1 := Nat.div_add_mod a q
  have h2 := Nat.mod_lt a hq
  have hc : a / q ≤ c := by
    apply Nat.le_of_not_lt; intro z
    have := Nat.mul_le_mul_left q (show c + 1 ≤ a / q from z)
    rw [Nat.mul_add] at this; omega
  by_cases g : a % q = 0
  · rw [if_pos g]
    have : q * c - a = q * (c - a / q) := by rw [Nat.mul_sub]; omega
    rw [this, Nat.mul_mod_right]
  · rw [if_neg g]
    have hc2 : a / q < c := by
      apply Nat.lt_of_le_of_ne hc; intro z
      rw [z] at h1; omega
    have : q * c - a = q * (c - a / q - 1) + (q - a % q) := by
      rw [Nat.mul_sub, Nat.mul_sub, Nat.mul_one]
      have := Nat.mul_le_mul_left q (show a / q + 1 ≤ c from hc2)
      rw [Nat.mul_add] at this
      omega
    rw [this, Nat.mul_add_mod, Nat.mod_eq_of_lt (by omega)]
theorem pow_mod0 {p i h : Nat} (hi : i ≤ h) : p ^ h % p ^ i = 0 := Nat.mod_eq_zero_of_dvd (Nat.pow_dvd_pow p hi)
theorem cyL_compl1 {p a h : Nat} (hp : 2 ≤ p) (ha : a < p ^ h) : cyL p a (p ^ h - 1 - a) = [] := by
  unfold cyL cyR
  rw [List.filter_eq_nil_iff]
  intro i _
  unfold cyB
  rw [decide_eq_true_eq, Nat.not_le]
  have hq : 0 < p ^ (i + 1) := Nat.pow_pos (by omega)
  rcases Nat.lt_or_ge h (i + 1) with g | g
  · have h1 : p ^ h ≤ p ^ (i + 1) := Nat.pow_le_pow_right (by omega) (by omega)
    rw [Nat.mod_eq_of_lt (by omega), Nat.mod_eq_of_lt (by omega)]; omega
  · have e : p ^ h - 1 - a = p ^ h - (a + 1) := by omega
    rw [e, mod_compl hq (pow_mod0 g) (by omega)]
    have h2 := Nat.mod_lt a hq
    have h3 := Nat.zero_le (a % p ^ (i + 1))
    by_cases z : (a % p ^ (i + 1)) + 1 < p ^ (i + 1)
    · have e2 : (a + 1) % p ^ (i + 1) = a % p ^ (i + 1) + 1 := by rw [Nat.add_mod, Nat.mod_eq_of_lt (a := 1) (by omega), Nat.mod_eq_of_lt z]
      rw [e2, if_neg (by omega)]; omega
    · have e2 : (a + 1) % p ^ (i + 1) = 0 := by
        have e3 : a + 1 = p ^ (i + 1) * (a / p ^ (i + 1)) + p ^ (i + 1) := by have := Nat.div_add_mod a (p ^ (i + 1)); omega
        rw [e3, Nat.mul_add_mod, Nat.mod_self]
      rw [e2, if_pos rfl]; omega
theorem cyL_compl {p a h : Nat} (hp : Pr p) (h0 : 0 < a) (ha : a < p ^ h) : cyL p a (p ^ h - a) = List.range' (vp p a) (h - vp p a) := by
  have h2 := Pr_two hp
  have hv : vp p a < h := by
    apply Nat.lt_of_not_le; intro z
    have := (pow_dvd_vp hp h0 h).mpr z
    rw [Nat.mod_eq_of_lt ha] at this; omega
  have hk : a + (p ^ h - a) < p ^ (h + 1) := by
    rw [Nat.pow_succ]
    have : p ^ h * 2 ≤ p ^ h * p := Nat.mul_le_mul_left _ h2
    omega
  rw [← cyR_eq h2 hk]
  unfold cyR
  have e : ∀ i, i < h + 1 → cyB p a (p ^ h - a) (i + 1) = (decide (vp p a ≤ i) && decide (i < h)) := fun i hi => by
    have hq : 0 < p ^ (i + 1) := Nat.pow_pos (by omega)
    unfold cyB
    rcases Nat.lt_or_ge h (i + 1) with g | g
    · have h1 : p ^ h * p ≤ p ^ (i + 1) := by rw [← Nat.pow_succ]; exact Nat.pow_le_pow_right (by omega) (by omega)
      have : p ^ h * 2 ≤ p ^ h * p := Nat.mul_le_mul_left _ h2
      rw [Nat.mod_eq_of_lt (by omega), Nat.mod_eq_of_lt (by omega), decide_eq_false (show ¬ i < h by omega), Bool.and_false, decide_eq_false]; omega
    · rw [mod_compl hq (pow_mod0 g) (by omega), decide_eq_true (show i < h by omega), Bool.and_true]
      have hd := pow_dvd_vp hp h0 (i + 1)
      have hl := Nat.mod_lt a hq
      by_cases z : a % p ^ (i + 1) = 0
      · rw [if_pos z, z, decide_eq_false (show ¬ p ^ (i + 1) ≤ 0 + 0 by omega), decide_eq_false (by have := hd.mp z; omega)]
      · rw [if_neg z, decide_eq_true (show p ^ (i + 1) ≤ a % p ^ (i + 1) + (p ^ (i + 1) - a % p ^ (i + 1)) by omega), decide_eq_true (by
          apply Nat.le_of_not_lt; intro y; exact z (hd.mpr (by omega)))]
  rw [List.filter_congr fun i hi => e i (List.mem_range.mp hi)]
  have hr : ∀ k, vp p a + k ≤ h → (List.range (vp p a + k)).filter (fun i => decide (vp p a ≤ i) && decide (i < h)) = List.range' (vp p a) k := fun k hkk => by
    induction k with
    | zero =>
      rw [Nat.add_zero, List.range'_zero, List.filter_eq_nil_iff]
      intro i hi
      have := List.mem_range.mp hi
      rw [decide_eq_false (show ¬ vp p a ≤ i by omega)]; simp
    | succ k ih =>
      rw [← Nat.add_assoc, List.range_succ, List.filter_append, ih (by omega), List.filter_cons, if_pos (by simp; omega), List.filter_nil, List.range'_concat]
      simp
  rw [List.range_succ, List.filter_append, List.filter_cons, if_neg (by simp), List.filter_nil, List.append_nil]
  have := hr (h - vp p a) (by omega)
  rw [show vp p a + (h - vp p a) = h by omega] at this
  exact this
/-- dict of pairs with unlike keys: they stand as they came -/
theorem merge_nodup : ∀ (ks : List Nat) (acc : List (L2.Key × V)), (∀ k ∈ ks, ∀ kv ∈ acc, kv.1 ≠ Sum.inl (k : Int)) → ks.Pairwise (· < ·) → mergeK acc (prK ks) = acc ++ prK ks
  | [], acc, _, _ => by show acc = acc ++ []; rw [List.append_nil]
  | k :: ks, acc, h, hp => by
    rw [List.pairwise_cons] at hp
    show mergeK (putK acc (Sum.inl (k : Int)) (V.int ((0 : Nat) : Int))) (prK ks) = _
    have e : putK acc (Sum.inl (k : Int)) (V.int ((0 : Nat) : Int)) = acc ++ [(Sum.inl (k : Int), V.int ((0 : Nat) : Int))] := by
      unfold putK
      rw [if_neg]
      rw [List.any_eq_true]
      rintro ⟨kv, m1, m2⟩
      exact h k List.mem_cons_self kv m1 (of_decide_eq_true m2)
    rw [e, merge_nodup ks _ (fun k' hk' kv hkv => ?_) hp.2, List.append_assoc]; rfl
    rcases List.mem_append.mp hkv with z | z
    · exact h k' (List.mem_cons_of_mem _ hk') kv z
    · simp only [List.mem_cons, List.not_mem_nil, or_false] at z
      subst z
      intro z
      have := hp.1 k' hk'
      have z' : (k : Int) = (k' : Int) := by injection z
      omega
theorem merge_keys {ks : List Nat} (h : ks.Pairwise (· < ·)) : (mergeK [] (prK ks)).map (·.1) = (zs_ ks).map Sum.inl := by
  rw [merge_nodup ks [] (fun _ _ kv hkv => by cases hkv) h]
  unfold prK zs_
  rw [List.nil_append, List.map_map, List.map_map]; rfl
end PL
set_option maxHeartbeats 4000000
/-! list(range(a, b)) -/
namespace PL
open PySem PySem.Spec PyProof.Rows L2 RZ
theorem rgV_nat (m n : Nat) : rgV (m : Int) (n : Int) = (zs_ (List.range' m (n - m))).map V.int := by
  unfold rgV zs_
  have e : ((n : Int) - (m : Int)).toNat = n - m := by omega
  rw [e, List.map_map]
  apply List.ext_getElem
  · simp
  · intro i h1 h2
    simp
section
variable {X : Cx} {T : Option Addr} {S : Sta} {a b : Expr} {p p2 pos pos2 : Pos} {m n : Nat}
theorem evnp_listRg (ha : EvP X T a S (nD m)) (hb : EvP X T b S (nD n)) (hm : X.mg "list" = none) (hm2 : X.mg "range" = none) (h : m ≤ 16777216 ∧ n ≤ 16777216) (hc : X.calm = true := by rfl) (hg : Gl X "list" := by rfl) (hg2 : Gl X "range" := by rfl)
    (na2 : starEach [a, b] X.env = (false, eval a X.env) :: starEach [b] X.env := by rfl) (na : starEach [.Call (.Name "range" p2) [a, b] [] pos2] X.env = (false, eval (.Call (.Name "range" p2) [a, b] [] pos2) X.env) :: starEach [] X.env := by rfl)
    (na3 : starEach [b] X.env = (false, eval b X.env) :: starEach [] X.env := by rfl) (hp : (backTo pos2 (starEach [b] X.env)).any (·.1) = false := by rfl) :
    EvNP X T (.Call (.Name "list" p) [.Call (.Name "range" p2) [a, b] [] pos2] [] pos) S ((List.range' m (n - m)).map nD) := fun R σ H I Q q =>
  wpE_of (pe_listRg hc hg hm (prg_2 hg2 hm2 pe_wp pe_wp na2 na3 hp) na) (ha R σ H I _ fun R1 v H1 d b1 ⟨e1, e2⟩ I1 n1 r1 => by
    subst e1 e2
    refine hb R1 σ H1 I1 _ fun R2 u H2 d2 b2 ⟨e1, e2⟩ I2 n2 r2 => ?_
    subst e1 e2
    cases r1
    cases r2
    refine ⟨(m : Int), (n : Int), rfl, rfl, RgOk.of_le (by omega) (by omega) (by omega) (by omega), fun q' hq' => ?_⟩
    have n12 := n1.trans n2
    refine q R2 q' _ _ _ _ ⟨rfl, rfl⟩ (I2.laid hq') (n12.trans (Nx.laid hq')) (fresh_of n12 (I2.notT hq') hq') (I2.notT hq') (I2.le.fre hq') upd_same ?_
    rw [rgV_nat, map_nD]; exact rpa_ints _)
end
end PL
set_option maxHeartbeats 4000000
namespace PL
open PySem PySem.Spec PyProof.Rows L2 RZ
/-! ### () * k -/
theorem tuple_mulE (k : Int) (l : Addr) (n : Nat) (dd : Option Addr) (sl : Array (Option Value)) (u : Tok) (h0 : 0 ≤ k) (h1 : k ≤ 1000) :
    Meets (Builtin.«tuple.__mul__» ⟨[.ref l, .int k u], []⟩) (fun _ R s => s.heap.get? l = some { cls := .type "tuple", dict := dd, data := .seq #[] n, slots := sl } ∧ R (.ok (.ret (Value.ref l))) s) :=
  .of_wp fun prog w A R s h => by
    obtain ⟨hp, g, d, tk, os⟩ := s
    obtain ⟨hl, h⟩ := h
    have f1 := AutoSeq1.idx_int
    have c0 : (decide (k < -(2 ^ 63)) || decide (k ≥ 2 ^ 63)) = false := by
      rw [decide_eq_false (by omega), decide_eq_false (by omega)]; rfl
    have c1 : ((#[] : Array Value).isEmpty || k == 1) = true := rfl
    wp_walk using wpAny_loadPart' hl
    repeat (first
      | (refine wpAny_ite_false (decide_eq_false (by rw [c0]; exact Bool.false_ne_true)) ?_; wp_walk using wpAny_loadPart' hl)
      | (refine wpAny_ite_true (decide_eq_true c1) ?_; wp_walk using wpAny_loadPart' hl))
    exact ⟨_, rfl, h⟩
section
variable {X : Cx} {T : Option Addr}
def rRepE (K : PySem.W.Frag) : R2 := fun x y H Q => ∃ l k, x = .ref l ∧ y = .int k ∧ SqT K H l [] ∧ 0 ≤ k ∧ k ≤ 1000 ∧ Q (.ref l) H
theorem op_repE : OpR X (binaryOp .Mult) (rRepE X.K) := by
  intro pins s σ H x y v u Q I rx ry h
  obtain ⟨l, k, rfl, rfl, hT, h0, h2, q⟩ := h
  cases rx
  obtain ⟨t, rfl⟩ := ry
  obtain ⟨its, r, ⟨⟨cls, dd, data, sl⟩, ho, hc, n, hd⟩, hs⟩ := I.tuple hT
  simp only at hc hd
  subst hc hd
  have hn : its = [] := List.eq_nil_of_length_eq_zero r.length.symm
  subst hn
  refine wpAny_binaryOp_repeat_ref (T := "tuple") (U := "int") (by decide) ⟨_, ho, rfl⟩ (fun s' => typeIs_int s' k t) noFill_tuple_mul F.fills_int_mul F.slot_int_rmul repeat_tuple F.slot_int_index.lookup
    (call_meets F.slot_int_rmul (typeIs_int s k t) F.entry_int_rmul (F.args_int_rmul_2 _ _) (int_rmul_tuple k t l #[] n dd sl)
      ⟨ho, rfl, ⟨_, ho, rfl⟩, call_meets F.slot_tuple_mul ⟨_, ho, rfl⟩ F.entry_tuple_mul (F.args_tuple_mul_2 _ _) (tuple_mulE k l n dd sl t h0 h2) ⟨ho, ?_⟩⟩)
  exact ⟨.ref l, H, I, rfl, q⟩
theorem opd_repE {k : Int} (h0 : 0 ≤ k) (h1 : k ≤ 1000) : OpD X T (binaryOp .Mult) (.tuple []) (.int k) (.tuple []) := fun S R σ H a b Q I ra rb q => by
  cases ra with
  | @tup a us _ ha ra =>
    cases rb
    cases ra
    exact ⟨_, op_repE, a, k, rfl, rfl, le_t I.le ha, h0, h1, q R _ H I Nx.refl (.tup ha .nil)⟩
theorem opd_rep3 {xs : List PyData} {k : Int} (h0 : 0 ≤ k) (h1 : k ≤ 1000) (h2 : xs.length ≤ 1000) : OpD X T (binaryOp .Mult) (.tuple xs) (.int k) (.tuple (List.replicate k.toNat xs).flatten) := by
  by_cases hx : xs = []
  · subst hx
    have e : (List.replicate k.toNat ([] : List PyData)).flatten = [] := by
      induction k.toNat with
      | zero => rfl
      | succ n ih => rw [List.replicate_succ, List.flatten_cons, ih]; rfl
    rw [e]; exact opd_repE h0 h1
  · exact opd_repT hx h0 h1 h2
end
/-! ### flat things -/
def flatI : PyData → Bool
  | .none => true
  | .bool _ => true
  | .int _ => true
  | .str s => PyData.canLay0 (.str s)
  | _ => false
theorem flat_ty {d : PyData} (h : flatI d = true) : (tyD d).isSome = true := by cases d <;> first | rfl | cases h
theorem canLay_flat : ∀ {ds : List PyData}, (∀ d ∈ ds, flatI d = true) → PyData.canLayAll0 ds = true
  | [], _ => rfl
  | d :: ds, h => by
    have h1 := h d List.mem_cons_self
    have h2 := canLay_flat fun x hx => h x (List.mem_cons_of_mem d hx)
    show (PyData.canLay0 d && PyData.canLayAll0 ds) = true
    rw [h2, Bool.and_true]
    cases d <;> first | rfl | exact h1 | cases h1
theorem depth_flat : ∀ {ds : List PyData}, (∀ d ∈ ds, flatI d = true) → PyData.depthAll ds = 0
  | [], _ => rfl
  | d :: ds, h => by
    have h1 := h d List.mem_cons_self
    show max (PyData.depth d) (PyData.depthAll ds) = 0
    rw [depth_flat fun x hx => h x (List.mem_cons_of_mem d hx)]
    cases d <;> first | rfl | cases h1
theorem good_flatT {ds : List PyData} (h : ∀ d ∈ ds, flatI d = true) (hl : ds.length ≤ 100000) : Good (.tuple ds) := ⟨rfl, fun _ e => by
  cases e
  refine ⟨?_, hl, fun x hx => flat_ty (h x hx)⟩
  unfold SeqAt.shaped
  rw [Bool.and_eq_true, decide_eq_true_eq]
  exact ⟨canLay_flat h, by show PyData.depthAll ds + 1 ≤ 64; rw [depth_flat h]; omega⟩⟩
theorem good_flat {d : PyData} (h : flatI d = true) : Good d := ⟨flat_ty h, fun ds e => by subst e; cases h⟩
theorem good_list (ds : List PyData) : Good (.list ds) := ⟨rfl, fun _ e => by cases e⟩
theorem good_TT (ns : List Nat) : Good (.tuple [eT ns]) := ⟨rfl, fun _ e => by
  cases e
  refine ⟨?_, by simp, fun x hx => ?_⟩
  · unfold SeqAt.shaped
    rw [Bool.and_eq_true, decide_eq_true_eq]
    refine ⟨?_, ?_⟩
    · show (PyData.canLayAll0 (ns.map nD) && true) = true
      rw [canLay_N]; rfl
    · show max (PyData.depthAll (ns.map nD) + 1) 0 + 1 ≤ 64
      rw [depth_N]; omega
  · rw [List.mem_singleton] at hx; subst hx; rfl⟩
/-! cuts of tuples keep what holds of all -/
theorem cutD_mem {ds : List PyData} {lo hi : Option Int} {d : PyData} (h : d ∈ cutD ds lo hi) : d ∈ ds := by
  unfold cutD at h
  exact List.mem_of_mem_drop (List.mem_of_mem_take h)
theorem cutD_len {ds : List PyData} {lo hi : Option Int} : (cutD ds lo hi).length ≤ ds.length := by
  unfold cutD
  rw [List.length_take, List.length_drop]; omega
theorem flat_N {ns : List Nat} : ∀ d ∈ ns.map nD, flatI d = true := fun d hd => by obtain ⟨y, _, rfl⟩ := List.mem_map.mp hd; rfl
theorem flat_ofString (t : String) : flatI (.str (Str.ofString t)) = true := by
  show PyData.canLay0 (.str (Str.ofString t)) = true
  simp only [PyData.canLay0]
  unfold PyData.strOk
  rw [Str.ofString_eq_toList]
  rw [List.all_toArray, List.all_map, List.all_eq_true]
  intro c _
  have h := c.valid
  show decide (c.toNat < 0x110000) = true
  rw [decide_eq_true_eq]
  show c.val.toNat < 0x110000
  rcases h with h | h
  · have : c.val.toNat < 0xd800 := h
    omega
  · exact h.2
end PL
set_option maxHeartbeats 4000000
/-! list.pop(i), within an append -/
namespace PL
open PySem PySem.Spec PyProof.Rows L2 RZ
theorem RpA.eraseIdx {K : PySem.W.Frag} {R : Hp} : ∀ {ds : List PyData} {vs : List V} (n : Nat), RpA K R vs ds → RpA K R (vs.eraseIdx n) (ds.eraseIdx n)
  | _, _, _, .nil => .nil
  | _, _, 0, .cons _ r => r
  | _, _, n + 1, .cons a r => .cons a (RpA.eraseIdx n r)
section
variable {X : Cx} {T : Option Addr} {S : Sta} {e : Expr} {κ : PyData → Nat → Prop} {pos : Pos} {k : KD} {rest : List Stmt} {x : Str} {p1 p2 p3 : Pos}
/-- e between statements; e may change the lists that the function owns -/
def EvU (X : Cx) (T : Option Addr) (e : Expr) (S : Sta) (κ : PyData → Sta → Prop) : Prop := ∀ (B : Bs) (R : Hp) (σ : L2.St) (H : Hp), HS X.K B T S R σ H → ∀ Q : VK,
  (∀ (R' : Hp) (v : V) (H' : Hp) (d : PyData) (S' : Sta), κ d S' → HS X.K B T S' R' σ H' → Rp X.K R' v d → Q v H') → wpE X e σ H Q
theorem evs_frzE (h : Ev X T e S.frz fun d b => noL d = true ∧ κ d b) : EvS X T e S κ := fun B R σ H I Q q => h _ σ H I.frz _ fun R1 v H1 d b k1 I1 n1 r1 => by
  obtain ⟨hn, k1⟩ := k1
  obtain ⟨t1, t2, t3, t4⟩ := I.thaw I1.le n1
  exact q _ v H1 _ _ k1 (I.after t1 t2 (t4 I1.tw)) (r1.nol t3 hn)
theorem evu_popAt (j : Nat) {es : List PyData} {κ : PyData → Sta → Prop} (hj : S.sl[j]? = some (some (.mu es)))
    (h : EvS X T e S fun d b => ∃ (i : Nat) (y : PyData), d = nD i ∧ i < 2 ^ 63 ∧ es[i]? = some y ∧ κ y ⟨b, S.sl.set j (some (.mu (es.eraseIdx i)))⟩)
    (hN : X.N[j]? = some x := by rfl) (hv : Vis X.env.scope x := by first | exact Or.inl rfl | exact Or.inr (Or.inl rfl) | exact Or.inr (Or.inr rfl)) (hd : (x == ("__debug__" : Str)) = false := by decide) (hcd : (x == ("__classdict__" : Str)) = false := by decide)
    (hse : starEach [e] X.env = (false, eval e X.env) :: starEach [] X.env := by rfl)
    (hbase : attributeBase (.Name x p1) "pop" X.env (eval (.Name x p1) X.env) = eval (.Name x p1) X.env := by rfl)
    (hfew : ((backTo p3 (starEach [e] X.env)).all (fun x => !x.1) && (backToKw p3 (keywordEach [] X.env)).all (fun x => x.1.isSome) && decide (([e] : List Expr).length + ([] : List Keyword).length + (if ([] : List Keyword).isEmpty then 0 else 1) < 30)) = true := by rfl)
    (hline : (p2.endLine == p3.line) = true := by rfl) (hst : (backTo p3 (starEach ([] : List Expr) X.env)).any (·.1) = false := by rfl) :
    EvU X T (.Call (.Attribute (.Name x p1) "pop" p2) [e] [] p3) S κ := fun B R σ H I Q q => by
  obtain ⟨v, f1, a, ys, g1, g2, g3, g4, g5, g6⟩ := I.sl j _ hj
  subst g1
  refine wpE_of (pe_bm PySem.F.plainAttrs_list PySem.F.slot_list_pop PySem.F.type_list_pop mt_popAt (pe_var hN hv hd hcd) (pa_cons pe_wp pa_nil hse) hbase hfew hline hse hst) ?_
  refine ⟨.ref a, f1, .inl ⟨rfl, _, SqL.of g2⟩, h B R σ H I _ fun R' w H' d b k1 I' r' => ?_⟩
  obtain ⟨v2, f2, a2, ys2, q1, q2, q3, q4, q5, q6⟩ := I'.sl j _ hj
  subst q1
  rw [f1] at f2; cases f2
  obtain ⟨i, y, rfl, hi, hy, k2⟩ := k1
  cases r'
  obtain ⟨u, hu, ru⟩ := q3.get hy
  have hil : i < ys2.length := (List.getElem?_eq_some_iff.mp hu).1
  refine ⟨a, ys2, (i : Int), i, u, rfl, rfl, q2, by omega, by omega, ?_, hu, q _ _ _ _ _ k2 (I'.putM hj f1 (q3.eraseIdx i)) ru⟩
  unfold seqIndex?
  simp; omega
theorem run_appU (i : Nat) (hi : ∃ ds, S.sl[i]? = some (some (.mu ds))) (h : EvU X T e S fun d S' => ∃ ds, S'.sl[i]? = some (some (.mu ds)) ∧ ds.length < sizeLine ∧ Run X T rest ⟨S'.b, S'.sl.set i (some (.mu (ds ++ [d])))⟩ k)
    (hN : X.N[i]? = some x := by rfl) (hv : Vis X.env.scope x := by first | exact Or.inl rfl | exact Or.inr (Or.inl rfl) | exact Or.inr (Or.inr rfl)) (hd : (x == ("__debug__" : Str)) = false := by decide) (hcd : (x == ("__classdict__" : Str)) = false := by decide)
    (hs : swapsWith (.Call (.Attribute (.Name x p1) "append" p2) [e] [] p3) none pos.line X.env = pure false := by rfl) (hse : starEach [e] X.env = (false, eval e X.env) :: starEach [] X.env := by rfl)
    (hbase : attributeBase (.Name x p1) "append" X.env (eval (.Name x p1) X.env) = eval (.Name x p1) X.env := by rfl)
    (hfew : ((backTo p3 (starEach [e] X.env)).all (fun x => !x.1) && (backToKw p3 (keywordEach [] X.env)).all (fun x => x.1.isSome) && decide (([e] : List Expr).length + ([] : List Keyword).length + (if ([] : List Keyword).isEmpty then 0 else 1) < 30)) = true := by rfl)
    (hline : (p2.endLine == p3.line) = true := by rfl) (hst : (backTo p3 (starEach ([] : List Expr) X.env)).any (·.1) = false := by rfl) :
    Run X T (.Expr (.Call (.Attribute (.Name x p1) "append" p2) [e] [] p3) pos :: rest) S k := fun B R σ H I D L => by
  obtain ⟨ds0, hi0⟩ := hi
  obtain ⟨v, f1, a, ys, g1, g2, g3, g4, g5, g6⟩ := I.sl i _ hi0
  subst g1
  refine seq_of (ps_expr (pe_bm PySem.F.plainAttrs_list PySem.F.slot_list_append PySem.F.type_list_append mt_append (pe_var hN hv hd hcd) (pa_cons pe_wp pa_nil hse) hbase hfew hline hse hst) hs) ?_
  refine ⟨.ref a, f1, .inl ⟨rfl, _, SqL.of g2⟩, h B R σ H I _ fun R' w H' d S' k1 I' r' => ?_⟩
  obtain ⟨ds, hi1, hz, k1⟩ := k1
  obtain ⟨v2, f2, a2, ys2, q1, q2, q3, q4, q5, q6⟩ := I'.sl i _ hi1
  subst q1
  rw [f1] at f2; cases f2
  exact ⟨a, ys2, w, rfl, rfl, q2, by rw [q3.length]; exact hz, k1 B R' σ _ (I'.putM hi1 f1 (q3.append (.cons r' .nil))) D L⟩
end
/-- x, y = a new list, a new list, both to be changed -/
theorem run_par2N {X : Cx} {T : Option Addr} {S : Sta} {k : KD} {rest : List Stmt} {a b : Expr} {pos : Pos} (i j : Nat) {ds1 ds2 : List PyData} {x y : Str} {px py pt pt2 : Pos} {kt k2 : Nat} (ha : EvNP X T a S.drp ds1) (hb : EvNP X T b S.drp ds2)
    (q : Run X T rest ⟨S.b, (S.sl.set i (some (.mu ds1))).set j (some (.mu ds2))⟩ k) (hN : X.N.Nodup) (hij : i ≠ j := by decide) (hi : X.N[i]? = some x := by rfl) (hj : X.N[j]? = some y := by rfl)
    (hx : X.env.scope.names.lookup x = some .local := by rfl) (hy : X.env.scope.names.lookup y = some .local := by rfl) (hw : swappedStores [.Tuple [.Name x px, .Name y py] kt pt] (.Tuple [a, b] k2 pt2) X.env = pure (some [x, y]) := by rfl)
    (hs : swapsWithSole [.Tuple [.Name x px, .Name y py] kt pt] (.Tuple [a, b] k2 pt2) pos.line X.env = pure false := by rfl) (hc : X.calm = true := by rfl)
    (hs2 : starEach [a, b] X.env = (false, eval a X.env) :: starEach [b] X.env := by rfl) (hs1 : starEach [b] X.env = (false, eval b X.env) :: starEach [] X.env := by rfl) :
    Run X T (.Assign [.Tuple [.Name x px, .Name y py] kt pt] (.Tuple [a, b] k2 pt2) pos :: rest) S k := fun B R σ H I D L => by
  refine seq_of (ps_par hc hN hi hj hij hx hy (pa_cons pe_wp (pa_cons pe_wp pa_nil hs1) hs2) hw hs) (ha R σ H I.drp _ fun R1 p1 xs1 H1 e1 b1 k1 I1 n1 u1 u2 u3 u4 u5 => ?_)
  obtain ⟨k1, k1'⟩ := k1
  subst k1 k1'
  refine hb R1 σ H1 I1 _ fun R2 p2 xs2 H2 e2 b2 k2 I2 n2 w1 w2 w3 w4 w5 => ?_
  obtain ⟨k2, k2'⟩ := k2
  subst k2 k2'
  have hne : p1 ≠ p2 := fun z => by subst z; rw [u4] at w1; cases w1
  have I3 := I.after I2.le (n1.trans n2) I2.tw
  have I4 := I3.setM (i := i) (u5.le n2.lr) (n2.lx p1 _ u2 u4) (n2.av p1 u2 (by rw [u4]; simp) u3) (I.n.none_of u2 u1) u2 fun l es _ hl hσ => by
    obtain ⟨xs', _, w, _⟩ := I.mu ⟨l, es, hl, hσ⟩
    rw [u1] at w; cases w
  have hH2 : H p2 = none := n1.none_of w2 w1
  have I5 := I4.setM (i := j) w5 w4 w3 (I.n.none_of w2 hH2) w2 fun l es hlj hl hσ => by
    by_cases e : l = i
    · subst e
      have hlt : l < σ.length := by
        have := (List.getElem?_eq_some_iff.mp hσ).1
        rwa [List.length_set] at this
      rw [List.getElem?_set_self hlt] at hσ
      have hσ := Option.some.inj (Option.some.inj hσ)
      exact hne (by injection hσ)
    · rw [List.getElem?_set_ne (Ne.symm e)] at hσ hl
      obtain ⟨xs', _, w, _⟩ := I.mu ⟨l, es, hl, hσ⟩
      rw [hH2] at w; cases w
  exact ⟨_, _, rfl, q B R2 _ H2 I5 D L⟩
def spMixed : SpT := fun ss b κ => ∃ (ns : List Int) (l : List Nat) (b' : Nat), ss = [.scr ns, .town, .dat (eT l)] ∧ l.length ≤ 1000 ∧ b = b' + l.length ∧ ∀ m : List Nat, m.Perm l → κ (eT m) b'
theorem mono_mixed : MonoT spMixed := fun ds b κ κ' h ⟨ns, m, b', e, h0, eb, k⟩ => ⟨ns, m, b', e, h0, eb, fun r hr => h _ _ (k r hr)⟩
section
variable {X : Cx} {t : Addr} {S : Sta} {e : Expr} {pos p p1 p2 : Pos} {κ : PyData → Nat → Prop} {k : Nat} {x y n : Str}
theorem ev_mixed {l : List Nat} {b' : Nat} {ns : List Int} (C : CalleeT X.prog X.w X.K X.mg X.base n k spMixed) (hr : Room k X.A) (i j : Nat) (hi : S.sl[i]? = some (some (.scr ns))) (hj : S.sl[j]? = some (some .town)) (he : EvP X (some t) e S (eT l)) (h0 : l.length ≤ 1000) (hb : S.b = b' + l.length) (q : ∀ m : List Nat, m.Perm l → κ (eT m) b')
    (hN1 : X.N[i]? = some x := by rfl) (hN2 : X.N[j]? = some y := by rfl) (hv1 : VisD X x := by first | exact Or.inl rfl | exact Or.inr (Or.inl rfl) | exact Or.inr (Or.inr rfl)) (hv2 : VisD X y := by first | exact Or.inl rfl | exact Or.inr (Or.inl rfl) | exact Or.inr (Or.inr rfl))
    (hg : Gl X n := by rfl) (hdb : (n == ("__debug__" : Str)) = false := by decide) (hd1 : (x == ("__debug__" : Str)) = false := by decide) (hd2 : (y == ("__debug__" : Str)) = false := by decide) (hc1 : (x == ("__classdict__" : Str)) = false := by decide) (hc2 : (y == ("__classdict__" : Str)) = false := by decide)
    (hs1 : starEach [.Name x p1, .Name y p2, e] X.env = (false, eval (.Name x p1) X.env) :: starEach [.Name y p2, e] X.env := by rfl) (hs2 : starEach [.Name y p2, e] X.env = (false, eval (.Name y p2) X.env) :: starEach [e] X.env := by rfl) (hs3 : starEach [e] X.env = (false, eval e X.env) :: starEach [] X.env := by rfl)
    (hpl : (backTo pos (starEach [.Name y p2, e] X.env)).any (·.1) = false := by rfl) : Ev X (some t) (.Call (.Name n p) [.Name x p1, .Name y p2, e] [] pos) S κ :=
  ev_fnT C hr (evb_name i hi (evb_name j hj (evb_dat (Ev.k he (evb_nil ⟨ns, l, b', rfl, h0, hb, q⟩)) hs3) hN2 hv2 hd2 hc2 hs2) hN1 hv1 hd1 hc1 hs1) hg hdb hs1 hpl
end
theorem perm_erase {l : List Nat} {i y : Nat} (h : l[i]? = some y) : (y :: l.eraseIdx i).Perm l := by
  induction l generalizing i with
  | nil => cases h
  | cons a r ih =>
    cases i with
    | zero => cases h; exact .refl _
    | succ i => exact (List.Perm.swap a y _).trans ((ih h).cons a)
theorem map_eraseIdx' {α β : Type} (f : α → β) : ∀ (l : List α) (i : Nat), (l.map f).eraseIdx i = (l.eraseIdx i).map f
  | [], _ => rfl
  | _ :: _, 0 => rfl
  | a :: r, i + 1 => congrArg (f a :: ·) (map_eraseIdx' f r i)
end PL
set_option maxHeartbeats 4000000
namespace PL
open PySem PySem.Spec PyProof.Rows L2 RZ
/-! ### several parts: order, noughts, joined parts -/
theorem pf_perm {a b : List Nat} (h : a.Perm b) : pf a = pf b := by
  induction h with
  | nil => rfl
  | cons x _ ih => show fac x * pf _ = fac x * pf _; rw [ih]
  | swap x y l => show fac y * (fac x * pf l) = fac x * (fac y * pf l); rw [Nat.mul_left_comm]
  | trans _ _ i j => exact i.trans j
theorem perm_sum {a b : List Nat} (h : a.Perm b) : a.sum = b.sum := by
  induction h with
  | nil => rfl
  | cons x _ ih => rw [List.sum_cons, List.sum_cons, ih]
  | swap x y l => simp only [List.sum_cons]; omega
  | trans _ _ i j => exact i.trans j
theorem mC_perm {a b : List Nat} (h : a.Perm b) : mC 0 a = mC 0 b := by rw [← mC_div, ← mC_div, pf_perm h, perm_sum h]
theorem pf_zeros : ∀ k, pf (List.replicate k 0) = 1
  | 0 => rfl
  | k + 1 => by rw [List.replicate_succ]; show fac 0 * pf _ = 1; rw [pf_zeros k]; rfl
theorem mC_zeros (l : List Nat) : mC 0 (l ++ [0, 0]) = mC 0 l := by
  rw [← mC_div, ← mC_div, pf_append, List.sum_append, show pf [0, 0] = 1 from rfl, Nat.mul_one]; rfl
theorem mC_join (a b : Nat) (r : List Nat) : mC 0 (a :: b :: r) = mC 0 ((a + b) :: r) * C (a + b) a := by
  show C (0 + a) a * (C (0 + a + b) b * mC (0 + a + b) r) = C (0 + (a + b)) (a + b) * mC (0 + (a + b)) r * C (a + b) a
  rw [Nat.zero_add, Nat.zero_add, C_self, C_self, C_symm' a b, Nat.one_mul, Nat.one_mul, Nat.mul_comm]
theorem mC_take1 : ∀ l : List Nat, mC 0 (l.take 1) = 1
  | [] => rfl
  | x :: r => by show C (0 + x) x * 1 = 1; rw [Nat.zero_add, C_self]
abbrev nz (n : Nat) : Bool := (n : Int) != 0
theorem nz_eq (n : Nat) : nz n = !decide (n = 0) := by
  show (!((n : Int) == 0)) = _
  by_cases g : n = 0
  · subst g; rfl
  · rw [decide_eq_false g, Bool.not_eq_eq_eq_not, Bool.not_not]
    simp only [beq_eq_false_iff_ne, Bool.not_false]
    simp; omega
theorem pf_filter (l : List Nat) : pf (l.filter nz) = pf l := by
  induction l with
  | nil => rfl
  | cons n r ih =>
    rw [List.filter_cons, nz_eq]
    by_cases g : n = 0
    · subst g; show pf (r.filter nz) = 1 * pf r; rw [ih, Nat.one_mul]
    · rw [decide_eq_false g]; show fac n * pf (r.filter nz) = fac n * pf r; rw [ih]
theorem sum_filter0 (l : List Nat) : (l.filter nz).sum = l.sum := by
  induction l with
  | nil => rfl
  | cons n r ih =>
    rw [List.filter_cons, nz_eq]
    by_cases g : n = 0
    · subst g; show (r.filter nz).sum = _; rw [ih, List.sum_cons, Nat.zero_add]
    · rw [decide_eq_false g]; show (n :: r.filter nz).sum = _; rw [List.sum_cons, ih, List.sum_cons]
theorem mC_filter (l : List Nat) : mC 0 (l.filter nz) = mC 0 l := by rw [← mC_div, ← mC_div, pf_filter, sum_filter0]
theorem eqv_oD0 (x : Option Nat) : PyData.eqv (oD x) (nD 0) = decide (x = some 0) := by
  cases x with
  | none => rfl
  | some v => show PyData.eqv (nD v) (nD 0) = _; rw [eqv_nD]; exact dec_congr ⟨fun h => by rw [h], fun h => Option.some.inj h⟩
theorem pwr_rest {p : Nat} (hp : Pr p) (n s : Nat) : decide (CZ n (s : Int) % p = 0) = !PyData.eqv (oD (pwr p n (s : Int))) (nD 0) := by
  rw [eqv_oD0]
  unfold pwr
  by_cases g : (s : Int) < 0 ∨ (n : Int) < s
  · rw [if_pos g, CZ_out g, Nat.zero_mod]; rfl
  · rw [if_neg g, CZ_nat]
    have h := pow_dvd_vp hp (C_pos (show s ≤ n by omega)) 1
    rw [Nat.pow_one] at h
    by_cases e : vp p (C n s) = 0
    · rw [e] at h
      rw [e, decide_eq_false (fun z => by have := h.mp z; omega)]; rfl
    · rw [decide_eq_true (h.mpr (by omega)), decide_eq_false (fun z => e (Option.some.inj z))]; rfl
theorem pwr_in {p : Nat} (x y : Nat) : pwr p (x + y) (x : Int) = some (vp p (C (x + y) x)) := by
  unfold pwr
  rw [if_neg (by omega), CZ_nat]
theorem mC_joinr {p : Nat} (x y : Nat) (r : List Nat) : mC 0 ((x + y) :: r) % p * (CZ (x + y) (x : Int) % p) % p = mC 0 (x :: y :: r) % p := by
  rw [CZ_nat, mC_join, ← Nat.mul_mod]
theorem mC_joinv {p : Nat} (hp : Pr p) (x y : Nat) (r : List Nat) : vp p (mC 0 (x :: y :: r)) = vp p (mC 0 ((x + y) :: r)) + vp p (C (x + y) x) := by
  rw [mC_join, vp_mul hp (mC_pos _ _) (C_pos (by omega))]
theorem mC_rest {p : Nat} (hp : Pr p) (l : List Nat) : decide (mC 0 l % p = 0) = decide (0 < vp p (mC 0 l)) := by
  have h := pow_dvd_vp hp (mC_pos l 0) 1
  rw [Nat.pow_one] at h
  exact dec_congr h
theorem rest_due {p : Nat} (hp : Pr p) (n s : Nat) : CZ (n / p) ((s / p : Nat) : Int) % p * (CZ (n - n / p * p) ((s - s / p * p : Nat) : Int) % p) % p = CZ n (s : Int) % p := by
  rw [← mod_sub, ← mod_sub, CZ_nat, CZ_nat, CZ_nat, lucas1 hp n s, ← Nat.mul_mod]
theorem rest_times {p : Nat} (hp : Pr p) (n s : Nat) : CZ (n * p) ((s * p : Nat) : Int) % p = CZ n (s : Int) % p := by
  have := lucas_mul hp (n := n) (k := s) (a := 0) (b := 0) (by have := Pr_two hp; omega) (by have := Pr_two hp; omega)
  rw [CZ_nat, CZ_nat]
  rw [Nat.add_zero, Nat.add_zero, C_self, Nat.mul_one] at this
  exact this

/-! ### the recurrence over the parts -/
theorem pf_split {l : List Nat} {i y : Nat} (h : l[i]? = some y) : pf l = fac y * pf (l.take i ++ l.drop (i + 1)) := by
  have e : l = l.take i ++ y :: l.drop (i + 1) := by
    obtain ⟨h1, h2⟩ := List.getElem?_eq_some_iff.mp h
    rw [← h2, ← List.drop_eq_getElem_cons h1, List.take_append_drop]
  rw [pf_append]
  conv => lhs; rw [e, pf_append]
  show pf _ * (fac y * pf _) = _
  rw [Nat.mul_left_comm]
theorem sum_split {l : List Nat} {i y : Nat} (h : l[i]? = some y) : l.sum = y + (l.take i ++ l.drop (i + 1)).sum := by
  have e : l = l.take i ++ y :: l.drop (i + 1) := by
    obtain ⟨h1, h2⟩ := List.getElem?_eq_some_iff.mp h
    rw [← h2, ← List.drop_eq_getElem_cons h1, List.take_append_drop]
  rw [List.sum_append]
  conv => lhs; rw [e, List.sum_append]
  rw [List.sum_cons]; omega
theorem perm_mid (a b : List Nat) (z : Nat) : (a ++ [z] ++ b).Perm (z :: (a ++ b)) := by
  rw [List.append_assoc]; exact List.perm_middle
theorem sum_less {l : List Nat} {i y : Nat} (h : l[i]? = some y) (h0 : 0 < y) : (l.take i ++ [y - 1] ++ l.drop (i + 1)).sum + 1 = l.sum := by
  rw [perm_sum (perm_mid _ _ _), List.sum_cons, sum_split h]; omega
theorem mC_less {l : List Nat} {i y : Nat} (h : l[i]? = some y) (h0 : 0 < y) : mC 0 (l.take i ++ [y - 1] ++ l.drop (i + 1)) * pf l = y * fac (l.sum - 1) := by
  obtain ⟨z, rfl⟩ : ∃ z, y = z + 1 := ⟨y - 1, by omega⟩
  have h1 := mC_eq (l.take i ++ [z + 1 - 1] ++ l.drop (i + 1))
  have h2 := sum_less h h0
  rw [show l.sum - 1 = (l.take i ++ [z + 1 - 1] ++ l.drop (i + 1)).sum by omega, ← h1, pf_perm (perm_mid _ _ _), pf_split h]
  show _ * ((z + 1) * fac z * _) = (z + 1) * (_ * (fac (z + 1 - 1) * _))
  rw [Nat.add_sub_cancel]
  simp only [Nat.mul_assoc, Nat.mul_comm, Nat.mul_left_comm]
theorem mC_rec {l : List Nat} {f : Nat} (h : f * pf l = l.sum * fac (l.sum - 1)) : f = if l.sum = 0 then 0 else mC 0 l := by
  have hp := pf_pos l
  by_cases g : l.sum = 0
  · rw [if_pos g]
    rw [g, Nat.zero_mul] at h
    rcases Nat.mul_eq_zero.mp h with z | z
    · exact z
    · omega
  · rw [if_neg g]
    obtain ⟨s, hs⟩ : ∃ s, l.sum = s + 1 := ⟨l.sum - 1, by omega⟩
    have h2 := mC_eq l
    rw [hs] at h h2
    exact Nat.eq_of_mul_eq_mul_right hp (h.trans h2.symm)
theorem pf_take_le (l : List Nat) (i : Nat) : pf (l.take i) ≤ fac l.sum := by
  rw [← mC_eq l]
  have e : pf l = pf (l.take i) * pf (l.drop i) := by rw [← pf_append, List.take_append_drop]
  rw [e, ← Nat.mul_assoc, Nat.mul_comm (mC 0 l), Nat.mul_assoc]
  exact Nat.le_mul_of_pos_right _ (Nat.mul_pos (mC_pos l 0) (pf_pos _))
theorem mC_ones (k : Nat) : mC 0 (List.replicate k 1) = fac k := by
  rw [← mC_div]
  have h1 : ∀ k, pf (List.replicate k 1) = 1 := fun k => by
    induction k with
    | zero => rfl
    | succ k ih => rw [List.replicate_succ]; show fac 1 * pf _ = 1; rw [ih]; rfl
  have h2 : ∀ k, (List.replicate k 1).sum = k := fun k => by
    induction k with
    | zero => rfl
    | succ k ih => rw [List.replicate_succ, List.sum_cons, ih]; omega
  rw [h1, h2, Nat.div_one]
theorem mC_zero1 (l : List Nat) : mC 0 (l ++ [0]) = mC 0 l := by
  rw [← mC_div, ← mC_div, pf_append, List.sum_append, show pf [0] = 1 from rfl, Nat.mul_one]; rfl
theorem vp_by {p m : Nat} (hp : Pr p) (h0 : 0 < m) : m / p ^ vp p m * p ^ vp p m = m ∧ m / (p ^ vp p m * p) * p ^ vp p m * p ≠ m := by
  have h1 := (pow_dvd_vp hp h0 (vp p m)).mpr (Nat.le_refl _)
  have h2 := pow_dvd_vp hp h0 (vp p m + 1)
  refine ⟨Nat.div_mul_cancel (Nat.dvd_of_mod_eq_zero h1), fun z => ?_⟩
  rw [Nat.mul_assoc, ← Nat.pow_succ] at z
  have z2 : m % p ^ (vp p m + 1) = 0 := Nat.mod_eq_zero_of_dvd ⟨m / p ^ (vp p m + 1), by rw [Nat.mul_comm]; exact z.symm⟩
  have := h2.mp z2
  omega
theorem vp_le_sum {p : Nat} (hp : Pr p) (l : List Nat) : vp p (mC 0 l) ≤ l.sum := by
  have := vp_mC hp l
  have := leg_le (Pr_two hp) l.sum
  omega
theorem pow7_le {p v : Nat} (h : p ≤ 7) : p ^ v ≤ 2 ^ (3 * v) := by
  rw [Nat.pow_mul]
  exact Nat.pow_le_pow_left (by omega) v
end PL
set_option maxHeartbeats 4000000
/-! exceptions: raise X(), a call that raises, try .. except X -/
namespace PL
open PySem PySem.Spec PyProof.Rows L2 RZ
/-- X(), X an own exception class without own __init__ -/
theorem pmk_own0 {X : Cx} {bmB : List Value} {B newId initId : String} {C : Addr} {x : Str} {p pos : Pos} (F : ExcBaseFacts B newId initId bmB) (q : PySem.W.excIn X.K C bmB newId = true) (gC : X.mg x = some (.ref C))
    (kC : PySem.W.keepIn X.K (.ref C) = true) (r : Raises X (.ref C)) (hg : Gl X x) (hdb : (x == ("__debug__" : Str)) = false := by decide) :
    PMk X (.Call (.Name x p) [] [] pos) (fun σ H Q => Q (.ref C) none H) := by
  intro pins s σ H Q I h
  refine wpAny_Call_Name_kw (ld_glob I hg gC ?_ hdb)
  refine PySem.W.callWith_K0 I.kIn kC ?_
  show wpAny _ _ (call (.ref C) []) _ _ _
  obtain ⟨bm, N, nm, qn, bs, hdct, sn, sub, ab, col, dd, k0, k1, k2, k3, k5, mN, hC, hN, hni, T⟩ := exc_obj I.kIn q
  refine wpAny_call_exc_subT F T hC hN hni (fun h' e hm => ?_) (Nat.zero_le _)
  exact mk_of I hm r h (I.hok.gone hm.new)
/-- an own exception class of the text -/
structure ExC (K : PySem.W.Frag) (mg : Str → Option Value) (x : Str) (C : Addr) : Prop where
  made : PySem.W.excIn K C (([.type "ValueError", .type "Exception", .type "BaseException", .type "object"] : List Value)) "ValueError.__new__" = true
  mg : mg x = some (.ref C)
  kp : PySem.W.keepIn K (.ref C) = true
  sub : PySem.W.subIn K (.ref C) (.type "BaseException") = some true
  ty : PySem.W.typeIn K (.ref C) = some (.type "type")
  ex : PySem.W.exmOne K (.ref C) (.ref C) = some true
theorem exm_of {K : PySem.W.Frag} {C : Addr} (bP : PySem.W.subIn K (.ref C) (.type "BaseException") = some true) (iP : PySem.W.isClsIn K C = true) (tP : PySem.W.typeIn K (.ref C) = some (.type "type")) (sP : PySem.W.subIn K (.ref C) (.ref C) = some true) : PySem.W.exmOne K (.ref C) (.ref C) = some true := by
  unfold PySem.W.exmOne
  rw [bP, if_pos (by rfl)]
  unfold PySem.W.kitCls
  unfold PySem.W.isClsIn at iP
  dsimp only
  rw [iP, tP]
  exact sP
/-- a def that raises -/
def liftX (K : PySem.W.Frag) (pre : List PyData → Prop) (C : Value) : Sp := fun vs H _ E => ∃ (R : Hp) (ds : List PyData), Le R H ∧ RpA K R vs ds ∧ pre ds ∧ ∀ R' H', Nx none R H R' H' → Le R' H' → E C none H'
section
variable (P : Program) (w : World) (K : PySem.W.Frag) (mg : Str → Option Value) (base : Heap)
structure CalleeX (n : Str) (k : Nat) (pre : List PyData → Prop) (C : Value) : Prop where
  ex : ∃ (f : Addr) (fd : FuncData) (ps : List Str), FnOk P w K mg base (L2.CX P w) k f fd ps (liftX K pre C) ∧ mg n = some (.ref f) ∧ PySem.W.keepIn K (.ref f) = true ∧ Binds K fd ps []
end
/-- statements that surely raise C, at a state of which P holds -/
def RunX (X : Cx) (T : Option Addr) (sts : List Stmt) (S : Sta) (C : Value) (P : Sta → Prop) : Prop := ∀ (B : Bs) (R : Hp) (σ : L2.St) (H : Hp), HS X.K B T S R σ H → ∀ W : WX, Takes X W →
  (∀ S' R' σ' H', P S' → HS X.K B T S' R' σ' H' → W C none σ' H') → ∀ D : Ends, wpSs X sts D σ H
/-- .. an expression -/
def EvX (X : Cx) (T : Option Addr) (e : Expr) (S : Sta) (C : Value) : Prop := ∀ (B : Bs) (R : Hp) (σ : L2.St) (H : Hp), HS X.K B T S R σ H → ∀ W : WX, Takes X W →
  (∀ R' H', HS X.K B T S R' σ H' → W C none σ H') → ∀ Q : VK, wpE X e σ H Q
section
variable {X : Cx} {T : Option Addr} {S : Sta} {k : KD} {C : Value} {Ps : Sta → Prop} {e c : Expr} {es : List Expr} {rest body oth : List Stmt} {pos pos' p : Pos} {d : PyData} {n x : Str}
theorem runx_raise {Ca : Addr} (F : ExC X.K X.mg x Ca) (hp : Ps S) (hg : Gl X x := by rfl) (hc : X.calm = true := by rfl) (hdb : (x == ("__debug__" : Str)) = false := by decide) :
    RunX X T (.Raise (some (.Call (.Name x p) [] [] pos)) none pos' :: rest) S (.ref Ca) Ps := fun B R σ H I W tk hw D =>
  seq_of (ps_raise hc tk (pmk_own0 PySem.F.excBase_ValueError F.made F.mg F.kp (raises_own F.sub F.ty) hg hdb)) (hw S R σ H hp I)
theorem runx_if {b : Bool} (h : EvT X T c S.frz b) (h1 : b = true → RunX X T body S C Ps) (h2 : b = false → RunX X T oth S C Ps) : RunX X T (.If c body oth pos :: rest) S C Ps := fun B R σ H I W tk hw D => by
  refine seq_of (ps_if pt_wp pss_wp pss_wp) (h _ σ H I.frz _ fun R1 H1 I1 n1 => ?_)
  obtain ⟨t1, t2, t3, t4⟩ := I.thaw I1.le n1
  have I2 : HS X.K B T S _ σ H1 := I.after t1 t2 (t4 I1.tw)
  cases b with
  | true => exact iteT (h1 rfl B _ σ H1 I2 W tk hw _)
  | false => exact iteF (h2 rfl B _ σ H1 I2 W tk hw _)
theorem runx_no (h : EvT X T c S.frz false) (h1 : RunX X T rest S C Ps) : RunX X T (.If c body [] pos :: rest) S C Ps := fun B R σ H I W tk hw D => by
  refine seq_of (ps_if pt_wp pss_wp pss_wp) (h _ σ H I.frz _ fun R1 H1 I1 n1 => ?_)
  obtain ⟨t1, t2, t3, t4⟩ := I.thaw I1.le n1
  exact iteF (wpSs_of pss_nil (h1 B _ σ H1 (I.after t1 t2 (t4 I1.tw)) W tk hw D))
theorem runx_asgP (i : Nat) (h : EvP X T e S.drp d) (q : RunX X T rest ⟨S.b, S.sl.set i (some (.dat d))⟩ C Ps) (hN : X.N.Nodup) (hi : X.N[i]? = some x := by rfl) (hx : Loc X.env.scope x := by first | exact .inl rfl | exact .inr rfl) (hf : X.fn x = true ∨ X.env.scope.names.lookup x = some .local := by first | exact .inl rfl | exact .inr rfl)
    (hs : swapsWith e (some (.Name x pos')) pos.line X.env = pure false := by rfl) : RunX X T (.Assign [.Name x pos'] e pos :: rest) S C Ps := fun B R σ H I W tk hw D =>
  seq_of (ps_set (i := i) hN hi hx pe_wp hs hf) (h R σ H I.drp _ fun R1 v H1 d' b k1 I1 n1 r1 => by
    obtain ⟨e1, e2⟩ := k1
    subst e1 e2
    exact q B R1 _ H1 ((I.after I1.le n1 I1.tw).setOne r1) W tk hw D)
theorem runx_asgX (i : Nat) (h : EvX X T e S C) (hp : Ps S) (hN : X.N.Nodup) (hi : X.N[i]? = some x := by rfl) (hx : Loc X.env.scope x := by first | exact .inl rfl | exact .inr rfl) (hf : X.fn x = true ∨ X.env.scope.names.lookup x = some .local := by first | exact .inl rfl | exact .inr rfl)
    (hs : swapsWith e (some (.Name x pos')) pos.line X.env = pure false := by rfl) : RunX X T (.Assign [.Name x pos'] e pos :: rest) S C Ps := fun B R σ H I W tk hw D =>
  seq_of (ps_set (i := i) hN hi hx pe_wp hs hf) (h B R σ H I W tk (fun R' H' I' => hw S R' σ H' hp I') _)
theorem runx_retX (h : EvX X T e S C) (hp : Ps S) : RunX X T (.Return (some e) pos :: rest) S C Ps := fun B R σ H I W tk hw D =>
  seq_of (ps_ret pe_wp) (h B R σ H I W tk (fun R' H' I' => hw S R' σ H' hp I') _)
theorem runx_exprX (h : EvX X T e S C) (hp : Ps S) (hs : swapsWith e none pos.line X.env = pure false := by rfl) : RunX X T (.Expr e pos :: rest) S C Ps := fun B R σ H I W tk hw D =>
  seq_of (ps_expr pe_wp hs) (h B R σ H I W tk (fun R' H' I' => hw S R' σ H' hp I') _)
theorem evx_fn {pre : List PyData → Prop} {ds : List PyData} {j : Nat} (F : CalleeX X.prog X.w X.K X.mg X.base n j pre C) (hr : Room j X.A) (ha : EvAP X T (e :: es) S.drp ds) (h : pre ds) (hg : Gl X n := by rfl) (hdb : (n == ("__debug__" : Str)) = false := by decide)
    (he : starEach (e :: es) X.env = (false, eval e X.env) :: starEach es X.env := by rfl) (hpl : (backTo pos (starEach es X.env)).any (·.1) = false := by rfl) : EvX X T (.Call (.Name n p) (e :: es) [] pos) S C := fun B R σ H I W tk hw Q => by
  obtain ⟨f, fd, ps, F, gm, kp, b⟩ := F.ex
  refine wpE_of (pe_callS F hr hg gm kp b (fun σ => passAt tk σ) pa_wp hdb he hpl) (ha R σ H I.drp _ fun R1 vs H1 ds' b1 k1 I1 n1 r1 => ?_)
  obtain ⟨e1, e2⟩ := k1
  subst e1 e2
  exact ⟨R1, _, I1.le, r1, h, fun R' H' n2 l2 => hw R' H' (I.after l2 (n1.trans n2.weak) (I1.tw.of n2))⟩
/-- try: .. / except x: .., where the body raises -/
theorem run_tryX {body suite : List Stmt} {b₀ : Stmt} {np p1 p2 : Pos} {c : Value} (hc : Names X x c) (hb : ∀ pn xe, RunX (X.tr pn xe) T body S C Ps) (hm : PySem.W.exmOne X.K C c = some true)
    (hsu : ∀ a pn S', Ps S' → Run (X.suite a pn) T (b₀ :: suite) S' { k with nx := fun S' => Run X T rest S' k }) (hs : X.stack = X.env :: X.outer := by rfl) (hf : X.env.frame = some X.env.locals := by rfl) :
    Run X T (.Try body [.ExceptHandler (some (.Name x np)) none (b₀ :: suite) p1] [] [] p2 :: rest) S k := fun B R σ H I D L => by
  have LL : Lift X.K B T { k with nx := fun S' => Run X T rest S' k } { D with nx := wpSs X rest D } := ⟨fun S' R' σ' H' q I' => q B R' σ' H' I' D L, L.bk, L.ct, L.rt⟩
  refine seq_of (ps_try_only (tb := fun W D σ H => ∀ pn xe, Takes (X.tr pn xe) W → wpSs (X.tr pn xe) body D σ H) (ts := fun a cls d D σ H => ∀ oe pn, wpSs (X.suite a ((a, oe) :: pn)) (b₀ :: suite) D σ H) hs hf hc takes0
    (fun W pn xe tk _ => ⟨fun pins s σ H D I h => pss_wp.run pins s σ H D I (h pn xe tk)⟩) (fun a oe cls d pn _ _ => ⟨fun pins s σ H D I h => pss_wp.run pins s σ H D I (h oe pn)⟩)) ?_
  intro pn xe tk
  exact hb pn xe B R σ H I _ tk (fun S' R' σ' H' hp I' => ⟨true, hm, fun _ a ha oe pn2 => hsu a _ S' hp B R' σ' H' I' _ LL, fun z => by cases z⟩) _
/-- .. where it does not -/
theorem run_tryN {body : List Stmt} {h₀ : ExceptHandler} {hs : List ExceptHandler} {p2 : Pos} (h : Run X T body S { k with nx := fun S' => Run X T rest S' k }) (hn : ∀ e s, ¬ X.xe e s := by exact fun _ _ z => z) : Run X T (.Try body (h₀ :: hs) [] [] p2 :: rest) S k := fun B R σ H I D L => by
  have LL : Lift X.K B T { k with nx := fun S' => Run X T rest S' k } { D with nx := wpSs X rest D } := ⟨fun S' R' σ' H' q I' => q B R' σ' H' I' D L, L.bk, L.ct, L.rt⟩
  exact seq_of (ps_try_never hn pss_wp pss_nil) (h B R σ H I _ LL)
end
section
variable {P : Program} {w : World} {K : PySem.W.Frag} {mg : Str → Option Value} {base : Heap}
abbrev CxX (P : Program) (w : World) (K : PySem.W.Frag) (mg : Str → Option Value) (base : Heap) (N : List Str) (n : Str) (st : Stmt) (f : Addr) (cdv : Value) (A : Around) (outer : List Env) (s : Shared) (H : Hp) (E : XK) : Cx := cxOf (L2.CX P w) P w K mg base N n (defScope st) f cdv A outer s H E
theorem calleeX_of {n : Str} {st : Stmt} {N ps : List Str} {k : Nat} {pre : List PyData → Prop} {C : Value} (D : DefAt K mg n st ps) (Sc : FnScope N ps (defScope st)) (len : ∀ ds, pre ds → ds.length = ps.length)
    (body : ∀ (f : Addr) (cdv : Value) (A : Around) (outer : List Env) (s : Shared) (H : Hp) (E : XK), Room k (A.deeper (envOfC n (defScope st) s.heap.objs.size f cdv)) → ∀ ds, pre ds →
      RunX (CxX P w K mg base N n st f cdv A outer s H E) none (defBody st) ⟨0, startS N.length (ds.map Sl.dat)⟩ C fun _ => True) : CalleeX P w K mg base n (k + 1) pre C := by
  obtain ⟨f, fd, F, gm, b⟩ := D.ex
  have hps : ps.length ≤ N.length := by rw [← Sc.pre, List.length_take]; omega
  refine ⟨f, fd, ps, F.okX Sc (fun vs H Q E h => ?_) (fun cdv A outer s H vs Q E hr h => ?_), gm, F.kp, b⟩
  · obtain ⟨R, ds, le, r, h, _⟩ := h
    rw [r.length]; exact len _ h
  · obtain ⟨R, ds, le, r, h, q⟩ := h
    refine ⟨_, pss_wp, ?_⟩
    have hv : vs.length ≤ N.length := by rw [r.length, len _ h]; exact hps
    exact body f cdv A outer s H E hr ds h ⟨R, H⟩ R (start N vs) H (hs_start le (fun t z => nomatch z) (paired_dat r) hv) (fun cls d _ H => E cls d H) (takes_of rfl rfl rfl rfl) (fun S' R' σ' H' _ I' => q R' H' I'.n I'.le) _
end
end PL
set_option maxHeartbeats 4000000
namespace PL
open PySem PySem.Spec PyProof.Rows L2 RZ
/-! ### how many places ahead of one are not divided -/
def nA (p n : Nat) : Nat → Nat
  | 0 => 0
  | s + 1 => nA p n s + (if C n s % p = 0 then 0 else 1)
theorem nA_step (p n s : Nat) : nA p n (s + 1) = nA p n s + (if C n s % p = 0 then 0 else 1) := rfl
theorem nA_rec {p : Nat} (hp : Pr p) (n : Nat) : ∀ s : Nat, nA p n s = (n % p + 1) * nA p (n / p) (s / p) + (if C (n / p) (s / p) % p = 0 then 0 else min (s % p) (n % p + 1))
  | 0 => by
    rw [Nat.zero_div, Nat.zero_mod]
    show 0 = (n % p + 1) * 0 + _
    split <;> omega
  | s + 1 => by
    have h2 := Pr_two hp
    have ih := nA_rec hp n s
    have hd := Nat.mod_lt n (show p > 0 by omega)
    have he := Nat.mod_lt s (show p > 0 by omega)
    have hz : C n s % p = 0 ↔ (C (n / p) (s / p) % p = 0 ∨ n % p < s % p) := by
      rw [lucas1 hp n s, Pr_mul0 hp, C_small hp hd he]
    have hsd := Nat.div_add_mod s p
    rw [nA_step, ih]
    by_cases g : s % p + 1 < p
    · have e1 : (s + 1) / p = s / p := by
        rw [← hsd, Nat.add_assoc, Nat.mul_add_div (by omega), Nat.div_eq_of_lt g, Nat.mul_add_div (by omega), Nat.div_eq_of_lt he]
      have e2 : (s + 1) % p = s % p + 1 := by
        rw [← hsd, Nat.add_assoc, Nat.mul_add_mod, Nat.mod_eq_of_lt g, Nat.mul_add_mod, Nat.mod_eq_of_lt he]
      rw [e1, e2]
      by_cases z : C (n / p) (s / p) % p = 0
      · rw [if_pos z, if_pos z, if_pos (hz.mpr (.inl z))]
      · rw [if_neg z, if_neg z]
        by_cases y : n % p < s % p
        · rw [if_pos (hz.mpr (.inr y))]; omega
        · rw [if_neg (fun w => (hz.mp w).elim z y)]; omega
    · have e0 : s + 1 = p * (s / p + 1) := by rw [Nat.mul_add, Nat.mul_one]; omega
      have e1 : (s + 1) / p = s / p + 1 := by rw [e0, Nat.mul_div_cancel_left _ (by omega)]
      have e2 : (s + 1) % p = 0 := by rw [e0, Nat.mul_mod_right]
      rw [e1, e2, nA_step, Nat.mul_add]
      generalize (n % p + 1) * nA p (n / p) (s / p) = t
      by_cases z : C (n / p) (s / p) % p = 0
      · rw [if_pos z, if_pos (hz.mpr (.inl z))]
        split <;> simp
      · rw [if_neg z, if_neg z, Nat.mul_one]
        have e3 : (if C (n / p) (s / p + 1) % p = 0 then 0 else min 0 (n % p + 1)) = 0 := by split <;> simp
        rw [e3]
        by_cases y : n % p < s % p
        · rw [if_pos (hz.mpr (.inr y))]; omega
        · rw [if_neg (fun w => (hz.mp w).elim z y)]; omega
theorem nA_mono {p n s t : Nat} (h : s ≤ t) : nA p n s ≤ nA p n t := by
  induction t with
  | zero => rw [show s = 0 by omega]; exact Nat.le_refl _
  | succ t ih =>
    by_cases g : s = t + 1
    · subst g; exact Nat.le_refl _
    · exact Nat.le_trans (ih (by omega)) (by rw [nA_step]; omega)
def nzD (p n s : Nat) : Bool := !decide (C n s % p = 0)
theorem nzD_iff {p n s : Nat} : nzD p n s = true ↔ C n s % p ≠ 0 := by unfold nzD; simp
theorem nA_list (p n s : Nat) : nA p n s = ((List.range s).filter (nzD p n)).length := by
  induction s with
  | zero => rfl
  | succ s ih =>
    rw [nA_step, ih, List.range_succ, List.filter_append, List.length_append]
    unfold nzD
    by_cases z : C n s % p = 0 <;> simp [z]
theorem nA_top {p : Nat} (hp : Pr p) (n : Nat) : nA p n (n + 1) = cnt p n := by
  rw [nA_list, ← nz_count hp n]
  unfold rowC nzD
  rw [List.filter_map, List.length_map]
  rfl
theorem nA_big {p n s : Nat} (h : n + 1 ≤ s) : nA p n s = nA p n (n + 1) := by
  obtain ⟨k, rfl⟩ : ∃ k, s = n + 1 + k := ⟨s - (n + 1), by omega⟩
  induction k with
  | zero => rfl
  | succ k ih =>
    rw [← Nat.add_assoc, nA_step, ih (by omega), C_gt (by omega), Nat.zero_mod, if_pos rfl, Nat.add_zero]
theorem nA_le {p : Nat} (hp : Pr p) (n s : Nat) : nA p n s ≤ cnt p n := by
  rw [← nA_top hp]
  by_cases g : s ≤ n + 1
  · exact nA_mono g
  · rw [nA_big (by omega)]; exact Nat.le_refl _
theorem nA_plc {p : Nat} (hp : Pr p) (n i : Nat) (hi : i < cnt p n) : nA p n (plc p n i) = i := by
  have h2 := Pr_two hp
  induction n using Nat.strongRecOn generalizing i with
  | _ n ih =>
    rcases Nat.eq_zero_or_pos n with h | h
    · subst h
      rw [cnt_zero] at hi
      rw [plc_zero]; show 0 = i; omega
    · have hd := Nat.mod_lt n (show p > 0 by omega)
      have hu := Nat.mod_lt i (show n % p + 1 > 0 by omega)
      rw [cnt_step h2] at hi
      have hq : i / (n % p + 1) < cnt p (n / p) := Nat.div_lt_of_lt_mul hi
      have ea : plc p n i / p = plc p (n / p) (i / (n % p + 1)) := by
        rw [plc_step h2 h, Nat.mul_comm _ p, Nat.mul_add_div (by omega), Nat.div_eq_of_lt (show i % (n % p + 1) < p by omega)]; rfl
      have em : plc p n i % p = i % (n % p + 1) := by
        rw [plc_step h2 h, Nat.mul_comm _ p, Nat.mul_add_mod, Nat.mod_eq_of_lt (show i % (n % p + 1) < p by omega)]
      rw [nA_rec hp, ea, em, ih _ (div_lt' h2 h) _ hq, if_neg (plc_nz hp _ _), Nat.min_eq_left (by omega)]
      exact Nat.div_add_mod i _
theorem nA_plc1 {p : Nat} (hp : Pr p) (n i : Nat) (hi : i < cnt p n) : nA p n (plc p n i + 1) = i + 1 := by
  rw [nA_step, nA_plc hp n i hi, if_neg (plc_nz hp n i)]
theorem plc_lt {p : Nat} (hp : Pr p) {n i j : Nat} (hij : i < j) (hj : j < cnt p n) : plc p n i < plc p n j := by
  refine Nat.lt_of_not_le fun h => ?_
  have := nA_mono (p := p) (n := n) h
  rw [nA_plc hp n i (by omega), nA_plc hp n j hj] at this
  omega
theorem plc_sym {p : Nat} (hp : 2 ≤ p) (n i : Nat) (hi : i < cnt p n) : plc p n (cnt p n - 1 - i) + plc p n i = n := by
  induction n using Nat.strongRecOn generalizing i with
  | _ n ih =>
    rcases Nat.eq_zero_or_pos n with h | h
    · subst h; rw [plc_zero, plc_zero]
    · rw [plc_step hp h, plc_step hp h]
      have hs := cnt_step hp n
      rw [hs] at hi
      generalize hd : n % p + 1 = d at *
      have hd0 : 0 < d := by omega
      have hq : i / d < cnt p (n / p) := Nat.div_lt_of_lt_mul hi
      have hu := Nat.mod_lt i hd0
      have hdm := Nat.div_add_mod i d
      have e : cnt p n - 1 - i = d * (cnt p (n / p) - 1 - i / d) + (d - 1 - i % d) := by
        rw [hs, Nat.mul_sub, Nat.mul_sub, Nat.mul_one]
        have : d * (i / d) + d ≤ d * cnt p (n / p) := by rw [← Nat.mul_succ]; exact Nat.mul_le_mul_left d hq
        omega
      have ea : (cnt p n - 1 - i) / d = cnt p (n / p) - 1 - i / d := by
        rw [e, Nat.mul_add_div hd0, Nat.div_eq_of_lt (show d - 1 - i % d < d by omega)]; rfl
      have em : (cnt p n - 1 - i) % d = d - 1 - i % d := by
        rw [e, Nat.mul_add_mod, Nat.mod_eq_of_lt (show d - 1 - i % d < d by omega)]
      rw [ea, em]
      have h1 := ih _ (div_lt' hp h) _ hq
      have h3 := Nat.div_add_mod n p
      rw [Nat.mul_comm] at h3
      have h4 : (plc p (n / p) (cnt p (n / p) - 1 - i / d) + plc p (n / p) (i / d)) * p = n / p * p := by rw [h1]
      rw [Nat.add_mul] at h4
      omega
theorem plc_first {p : Nat} (hp : 2 ≤ p) (n : Nat) : plc p n 0 = 0 := by
  induction n using Nat.strongRecOn with
  | _ n ih =>
    rcases Nat.eq_zero_or_pos n with h | h
    · subst h; rw [plc_zero]
    · rw [plc_step hp h, Nat.zero_div, Nat.zero_mod, ih _ (div_lt' hp h)]; omega
theorem plc_last {p : Nat} (hp : 2 ≤ p) (n : Nat) : plc p n (cnt p n - 1) = n := by
  have := plc_sym hp n 0 (cnt_pos p n)
  rw [plc_first hp] at this
  simpa using this
/-- the places of a row that are not divided -/
def FL (p n : Nat) : List Nat := (List.range (n + 1)).filter (nzD p n)
theorem filter_at (q : Nat → Bool) {s m : Nat} (hs : s < m) (hq : q s = true) : ((List.range m).filter q)[((List.range s).filter q).length]? = some s := by
  induction m with
  | zero => omega
  | succ m ih =>
    rw [List.range_succ, List.filter_append]
    by_cases g : s = m
    · subst g
      rw [List.getElem?_append_right (Nat.le_refl _), Nat.sub_self, List.filter_cons, if_pos hq]; rfl
    · have := ih (by omega)
      rw [List.getElem?_append_left (List.getElem?_eq_some_iff.mp this).1, this]
theorem FL_len {p : Nat} (hp : Pr p) (n : Nat) : (FL p n).length = cnt p n := by unfold FL; rw [← nA_list, nA_top hp]
theorem FL_get {p : Nat} (hp : Pr p) {n i : Nat} (hi : i < cnt p n) : (FL p n)[i]? = some (plc p n i) := by
  have := filter_at (nzD p n) (s := plc p n i) (m := n + 1) (Nat.lt_succ_of_le (plc_le (Pr_two hp) n i)) (nzD_iff.mpr (plc_nz hp n i))
  rw [← nA_list, nA_plc hp n i hi] at this
  exact this
theorem FL_eq {p : Nat} (hp : Pr p) (n : Nat) : FL p n = (List.range (cnt p n)).map (plc p n) := by
  apply List.ext_getElem?
  intro i
  by_cases g : i < cnt p n
  · rw [FL_get hp g, List.getElem?_map, List.getElem?_range g]; rfl
  · rw [List.getElem?_eq_none (by rw [FL_len hp]; omega), List.getElem?_eq_none (by rw [List.length_map, List.length_range]; omega)]
def nxP (p n s : Nat) : Option Nat := (FL p n).find? fun x => decide (s ≤ x)
theorem later_len (p n s : Nat) : ∀ m : Nat, (((List.range m).filter (nzD p n)).filter fun x => decide (s ≤ x)).length + nA p n (min s m) = nA p n m
  | 0 => by simp
  | m + 1 => by
    have ih := later_len p n s m
    rw [List.range_succ, List.filter_append, List.filter_append, List.length_append, nA_step]
    by_cases g : s ≤ m
    · rw [Nat.min_eq_left (by omega)] at *
      unfold nzD at *
      by_cases z : C n m % p = 0
      · simp [z] at *; omega
      · simp [z, g] at *; omega
    · rw [Nat.min_eq_right (by omega)] at *
      have e : (List.filter (fun x => decide (s ≤ x)) (List.filter (nzD p n) [m])).length = 0 := by
        unfold nzD
        by_cases z : C n m % p = 0
        · simp [z]
        · simp [z]; omega
      rw [e, nA_step]; omega
theorem FL_later {p : Nat} (hp : Pr p) (n s : Nat) : ((FL p n).filter fun x => decide (s ≤ x)).length + nA p n s = (FL p n).length := by
  have h := later_len p n s (n + 1)
  have e : nA p n (min s (n + 1)) = nA p n s := by
    by_cases g : s ≤ n + 1
    · rw [Nat.min_eq_left g]
    · rw [Nat.min_eq_right (by omega)]; exact (nA_big (by omega)).symm
  rw [e] at h
  unfold FL
  rw [h, ← nA_list]
theorem range_ge (s : Nat) : ∀ m : Nat, ((List.range m).filter fun x => decide (s ≤ x)) = List.range' s (m - s)
  | 0 => by simp
  | m + 1 => by
    rw [List.range_succ, List.filter_append, range_ge s m]
    by_cases g : s ≤ m
    · rw [show m + 1 - s = (m - s) + 1 by omega, List.range'_concat]
      simp [g]
      try omega
    · rw [show m + 1 - s = m - s by omega]
      simp; omega
theorem FL_range (p n s : Nat) : ((FL p n).filter fun x => decide (s ≤ x)) = (List.range' s (n + 1 - s)).filter (nzD p n) := by
  unfold FL
  rw [List.filter_filter, ← range_ge, List.filter_filter]
  congr 1
  funext x
  rw [Bool.and_comm]
theorem nxP_head (p n s : Nat) : nxP p n s = ((FL p n).filter fun x => decide (s ≤ x)).head? := by
  unfold nxP; rw [List.head?_filter]
/-- figures ahead of a place -/
def cT (p n j : Nat) : Nat := cntL ((figs p n).take j)
theorem cT_zero (p n : Nat) : cT p n 0 = 1 := by unfold cT; rw [List.take_zero]; rfl
theorem cT_step {p : Nat} (hp : 2 ≤ p) (n j : Nat) : cT p n (j + 1) = cT p n j * (n / p ^ j % p + 1) := by
  unfold cT
  rw [← figs_get hp j n, List.take_add_one, cntL_append, List.getD_eq_getElem?_getD]
  cases (figs p n)[j]? with
  | none => rfl
  | some d => show _ * ((d + 1) * 1) = _; rw [Nat.mul_one]; rfl
theorem nA_down {p : Nat} (hp : Pr p) (n s j : Nat) : nA p (n / p ^ j) (s / p ^ j) * cT p n j = nA p (n / p ^ (j + 1)) (s / p ^ (j + 1)) * cT p n (j + 1) + (if C (n / p ^ (j + 1)) (s / p ^ (j + 1)) % p = 0 then 0 else min (s / p ^ j % p) (n / p ^ j % p + 1)) * cT p n j := by
  rw [cT_step (Pr_two hp), nA_rec hp (n / p ^ j), Nat.div_div_eq_div_mul, Nat.div_div_eq_div_mul, ← Nat.pow_succ, Nat.add_mul]
  congr 1
  rw [Nat.mul_comm (n / p ^ j % p + 1), Nat.mul_assoc, Nat.mul_comm (n / p ^ j % p + 1)]
theorem C_down {p : Nat} (hp : Pr p) (n s j : Nat) : C (n / p ^ j) (s / p ^ j) % p = 0 ↔ (C (n / p ^ (j + 1)) (s / p ^ (j + 1)) % p = 0 ∨ n / p ^ j % p < s / p ^ j % p) := by
  have h2 := Pr_two hp
  rw [lucas1 hp (n / p ^ j), Pr_mul0 hp, C_small hp (Nat.mod_lt _ (by omega)) (Nat.mod_lt _ (by omega)), Nat.div_div_eq_div_mul, Nat.div_div_eq_div_mul, ← Nat.pow_succ]
/-- divided at j: what is ahead tells all -/
theorem nA_zero {p : Nat} (hp : Pr p) (n s : Nat) : ∀ j : Nat, C (n / p ^ j) (s / p ^ j) % p = 0 → nA p n s = nA p (n / p ^ j) (s / p ^ j) * cT p n j
  | 0, _ => by rw [Nat.pow_zero, Nat.div_one, Nat.div_one, cT_zero, Nat.mul_one]
  | j + 1, h => by
    rw [nA_zero hp n s j ((C_down hp n s j).mpr (.inl h)), nA_down hp n s j, if_pos h, Nat.zero_mul, Nat.add_zero]
theorem figs_len_mono {p : Nat} (hp : 2 ≤ p) {a b : Nat} (h : a ≤ b) : (figs p a).length ≤ (figs p b).length := by
  induction b using Nat.strongRecOn generalizing a with
  | _ b ih =>
    rcases Nat.eq_zero_or_pos a with ha | ha
    · subst ha; rw [figs_zero]; exact Nat.zero_le _
    · have hb : 0 < b := by omega
      rw [figs_pos hp ha, figs_pos hp hb, List.length_cons, List.length_cons]
      have := ih (b / p) (div_lt' hp hb) (Nat.div_le_div_right h)
      omega
theorem pad_figs {p : Nat} (hp : 2 ≤ p) (n k j : Nat) : (figs p n ++ List.replicate k 0).getD j 0 = n / p ^ j % p := by
  rw [← figs_get hp j n, List.getD_eq_getElem?_getD, List.getD_eq_getElem?_getD]
  by_cases g : j < (figs p n).length
  · rw [List.getElem?_append_left g]
  · rw [List.getElem?_append_right (by omega), List.getElem?_eq_none (show (figs p n).length ≤ j by omega), List.getElem?_replicate]
    split <;> rfl
def sp_number_at : SpD := spE e3 (fun a => a.1 < 2 ^ 200 ∧ a.2.2 < 2 ^ 200 ∧ Pr a.2.1) fun a => nD (nA a.2.1 a.1 a.2.2)
def sp_count_of : SpD := spE eT1 (fun l => ∀ y ∈ l, y < 2 ^ 60) fun l => nD (cntL l)
def sp_next_place : SpD := spE e3 (fun a => a.1 < 2 ^ 60 ∧ Pr a.2.2) fun a => oD (nxP a.2.2 a.1 a.2.1)
end PL
set_option maxHeartbeats 4000000
/-! sorted(a tuple of ints); x in a tuple of ints -/
namespace PL
open PySem PySem.Spec PyProof.Rows L2 RZ
section
variable {prog : Program} {w : World} {A : Around} {E : Value → Shared → Prop} {s : Shared}
theorem collect_tup {l : Addr} {vs : List Value} {Q : List Value → Shared → Prop} (hl : s.heap.IsTuple l vs.toArray)
    (h : Q vs { s with heap := (s.heap.push (seqObj "list" #[] 0)).update s.heap.objs.size (Obj.mapSeq (· ++ vs.toArray)) }) (hsz : vs.length ≤ sizeLine) :
    wpAny (model prog w) A (collect (.ref l)) Q E s := by
  obtain ⟨o, ho, hc, n, hd⟩ := id hl
  unfold collect
  refine wpAny_bind (wpAny_runValue (codeAny_builtin entry_proto_collect' ?_))
  show wpAny _ _ (do again (.builtin "list.__iadd__" ⟨[← newList [], .ref l], []⟩)) _ _ s
  refine wpAny_bind (wpAny_newList (wpAny_pure ⟨Code.quiet_builtin _ (by decide +kernel), codeAny_builtin entry_list_iadd' ?_⟩))
  show wpAny _ _ (Builtin.List.listExtendWith (.ref s.heap.objs.size) (.ref l) (.ref s.heap.objs.size)) _ _ { s with heap := s.heap.push (seqObj "list" #[] 0) }
  unfold Builtin.List.listExtendWith
  have ho' : (s.heap.push (seqObj "list" #[] 0)).get? l = some o := Heap.get?_push_of_some _ ho
  refine wpAny_bind (wpAny_typeOf (T := "tuple") ⟨o, ho', hc⟩ ?_)
  have ht : (Value.type "tuple" == Value.type "tuple") = true := by rfl
  rw [if_pos (by rw [ht]; simp)]
  refine wpAny_bind (listItems_at ho' hd ?_)
  refine wpAny_bind (listItems_at (xs := #[]) (n := 0) (Heap.get?_push_size _ rfl) rfl ?_)
  rw [if_neg (by simp)]
  refine wpAny_bind (listUpdate_at (xs := #[]) (n := 0) (Heap.get?_push_size _ rfl) rfl ?_ (Nat.zero_le _) (by show (#[] ++ vs.toArray).size ≤ sizeLine + 1; simp only [Array.size_append, List.size_toArray, List.length_nil]; omega))
  refine wpAny_pure ?_
  show wpAny (model prog w) A (do
      let o ← load s.heap.objs.size
      match o.data with
      | .seq xs _ => pure xs.toList
      | _ => unsupported "internal:collect") Q E { s with heap := (s.heap.push (seqObj "list" #[] 0)).update s.heap.objs.size (Obj.mapSeq (· ++ vs.toArray)) }
  refine wpAny_bind (wpAny_load (get?_update_seq (Heap.get?_push_size _ rfl) _) ?_)
  show wpAny _ _ (pure ((#[] : Array Value) ++ vs.toArray).toList) Q E _
  rw [show ((#[] : Array Value) ++ vs.toArray).toList = vs by simp]
  exact wpAny_pure h
theorem sorted_ordT {l : Addr} {vs : List Value} {ltv : Value → Value → Bool} {Q : Value → Shared → Prop} (O : SrtO.Swo ltv) (hl : s.heap.IsTuple l vs.toArray) (hz : vs.length ≤ sizeLine)
    (hS : 2 ≤ vs.length → ∀ (h₁ : Heap) (a : Addr), h₁.get? a = some (seqObj "list" vs.toArray 0) → (∀ b o, s.heap.get? b = some o → b ≠ a ∧ h₁.get? b = some o) → SrtO.SortableO prog w A.in1.in1 { s with heap := h₁ } a vs ltv)
    (h : ∀ out : List Value, SrtO.Srtd ltv out → SrtO.Stb ltv out vs → Q (.ref (s.heap.objs.size + 1)) { s with heap := sortedAll s.heap vs out.toArray }) :
    wpAny (model prog w) A (call (.builtin "sorted") [.ref l]) Q E s := by
  refine Calls.call_function_entry kind_sorted plain_sorted entry_sorted (args_sorted1 _) ?_
  unfold Builtin.«sorted»
  refine wpAny_bind (m := checkCount "sorted" 1 1 _) (wpAny_pure ?_)
  refine wpAny_bind (collect_tup hl ?_ hz)
  refine wpAny_bind (wpAny_newList ?_ hz)
  have hsz : ((s.heap.push (seqObj "list" #[] 0)).update s.heap.objs.size (Obj.mapSeq (· ++ vs.toArray))).objs.size = s.heap.objs.size + 1 := by
    rw [Heap.size_update, size_push']
  have hoL : (((s.heap.push (seqObj "list" #[] 0)).update s.heap.objs.size (Obj.mapSeq (· ++ vs.toArray))).push (seqObj "list" vs.toArray 0)).get? (s.heap.objs.size + 1) = some (seqObj "list" vs.toArray 0) := by
    rw [← hsz]; exact Heap.get?_push_size _ rfl
  have keep : ∀ b o, s.heap.get? b = some o → b ≠ s.heap.objs.size + 1 ∧ (((s.heap.push (seqObj "list" #[] 0)).update s.heap.objs.size (Obj.mapSeq (· ++ vs.toArray))).push (seqObj "list" vs.toArray 0)).get? b = some o := fun b o q => by
    have hlt : b < s.heap.objs.size := Heap.lt_size q
    refine ⟨Nat.ne_of_lt (Nat.lt_succ_of_lt hlt), Heap.get?_push_of_some _ ?_⟩
    rw [Heap.get?_update_ne _ _ _ _ (Nat.ne_of_lt hlt)]
    exact Heap.get?_push_of_some _ q
  show wpAny _ _ _ _ _ { s with heap := ((s.heap.push (seqObj "list" #[] 0)).update s.heap.objs.size (Obj.mapSeq (· ++ vs.toArray))).push (seqObj "list" vs.toArray 0) }
  rw [hsz]
  refine wpAny_bind (wpAny_holding (wpAny_call_entry slot_list_sort ⟨_, hoL, rfl⟩ entry_list_sort (SrtO.list_sort_ord O hoL hz (fun h2 => hS h2 _ _ hoL keep) fun out hs hb => ⟨_, rfl, ?_⟩) (args_list_sort _)))
  exact wpAny_pure ⟨_, rfl, h out hs hb⟩
end
section
variable {X : Cx} {T : Option Addr} {S : Sta}
theorem cr_sortedT : CallR X (.builtin "sorted") (fun vs H Q => ∃ (a : Addr) (ns : List Int), vs = [V.ref a] ∧ SqT X.K H a (ns.map V.int) ∧
    ∀ (ns' : List Int) (p : Addr), ns'.Perm ns → ns'.Pairwise (· ≤ ·) → H p = none → Q (.ref p) (upd H p (.lst (ns'.map V.int)))) := by
  intro pins s σ H vs us Q I r h
  obtain ⟨a, ns, rfl, hs, q⟩ := h
  obtain ⟨its, rv, hl, hz⟩ := I.tuple hs
  rw [Vals.ref1 r]
  have hi := rv.ints
  refine sorted_ordT SrtO.swo_int hl (by rw [← rv.length]; exact hz) (fun h2 h₁ a' _ _ => SrtO.ints_sortable hi h2) fun out h1 h2 => ?_
  obtain ⟨k1, k2, k3⟩ := SrtO.ints_out hi h1 h2
  obtain ⟨ep, he'⟩ := PyProof.Rows.sortedAll_at s.heap its out.toArray
  have hlen : ((out.map SrtO.iv).map V.int).length ≤ sizeLine := by
    rw [List.length_map, k2.length_eq]
    rw [List.length_map] at hz
    exact hz
  exact ⟨.ref _, upd H (s.heap.objs.size + 1) (.lst ((out.map SrtO.iv).map V.int)), I.laid (t' := s.toks) (fun _ _ => PyProof.Rows.sortedAll_old) (Nat.le_succ _) ⟨hlen, out, ep, vals_of_ints k1, he'⟩, rfl, q _ _ k2 k3 (I.hok.fresh (Nat.le_succ _))⟩
theorem cn_sortedT {ns ms : List Int} (hp : ms.Perm ns) (hs : ms.Pairwise (· ≤ ·)) : CallN X T (.builtin "sorted") [.tuple (ns.map .int)] (ms.map .int) := fun S R σ H vs Q I r q => by
  obtain ⟨v, rfl, r1⟩ := r.one
  cases r1 with
  | @tup a xs _ h r =>
    rw [r.ints] at h
    refine ⟨_, cr_sortedT, a, ns, rfl, le_t I.le h, fun ns' p h1 h2 hp' => ?_⟩
    rw [perm_sorted_eq (h1.trans hp.symm) h2 hs]
    exact q p _ hp' (rpa_ints ms)
end
/-- naturals, put in order -/
def srt (ns : List Nat) : List Nat := ns.mergeSort fun a b => decide (a ≤ b)
theorem srt_perm (ns : List Nat) : (srt ns).Perm ns := List.mergeSort_perm _ _
theorem srt_pw (ns : List Nat) : (srt ns).Pairwise (· ≤ ·) := by
  have h := List.pairwise_mergeSort (le := fun a b : Nat => decide (a ≤ b)) (fun a b c h1 h2 => by simp at *; omega) (fun a b => by simp; omega) ns
  exact h.imp fun h => by simpa using h
theorem nD_ints (ns : List Nat) : ns.map nD = (ns.map fun (n : Nat) => (n : Int)).map PyData.int := by rw [List.map_map]; rfl
theorem srt_int_perm (ns : List Nat) : ((srt ns).map fun (n : Nat) => (n : Int)).Perm (ns.map fun (n : Nat) => (n : Int)) := (srt_perm ns).map _
theorem srt_int_pw (ns : List Nat) : ((srt ns).map fun (n : Nat) => (n : Int)).Pairwise (· ≤ ·) := List.pairwise_map.mpr ((srt_pw ns).imp fun h => by omega)
theorem srt_perm_eq {a b : List Nat} (h : a.Perm b) : srt a = srt b :=
  ((srt_perm a).trans (h.trans (srt_perm b).symm)).eq_of_pairwise (fun x y _ _ h h' => Nat.le_antisymm h h') (srt_pw a) (srt_pw b)
section
variable {X : Cx} {T : Option Addr} {S : Sta}
theorem cn_sortN {ns : List Nat} : CallN X T (.builtin "sorted") [.list (ns.map nD)] ((srt ns).map nD) := by
  rw [nD_ints, nD_ints]; exact cn_sorted (srt_int_perm ns) (srt_int_pw ns)
theorem cn_sortNT {ns : List Nat} : CallN X T (.builtin "sorted") [.tuple (ns.map nD)] ((srt ns).map nD) := by
  rw [nD_ints, nD_ints]; exact cn_sortedT (srt_int_perm ns) (srt_int_pw ns)
theorem inV_nat {K : PySem.W.Frag} {R : Hp} {i : Nat} : ∀ {ns : List Nat} {xs : List V}, RpA K R xs (ns.map nD) → xs.all flatV = true ∧ inV (V.int (i : Int)) xs = decide (i ∈ ns)
  | [], _, h => by cases h; exact ⟨rfl, by simp [inV]⟩
  | n :: r, _, h => by
    cases h with
    | cons a b =>
      cases a
      obtain ⟨h1, h2⟩ := inV_nat (i := i) b
      refine ⟨h1, ?_⟩
      unfold inV at h2 ⊢
      rw [List.any_cons, h2]
      show (decide ((n : Int) = (i : Int)) || _) = _
      by_cases g : i = n
      · subst g; simp
      · rw [decide_eq_false (by omega)]
        simp [g]
theorem opn_inT {i : Nat} {ns : List Nat} : OpD X T (compareOp .In) (nD i) (.tuple (ns.map nD)) (.bool (decide (i ∈ ns))) := fun S R σ H a b Q I ra rb q => by
  cases ra
  cases rb with
  | @tup p xs _ h r =>
    obtain ⟨h1, h2⟩ := inV_nat (i := i) r
    refine ⟨_, op_in_seq, p, xs, rfl, .inr (le_t I.le h), rfl, h1, ?_⟩
    show Q (.bl (inV _ xs)) H
    rw [h2]
    exact q R _ H I Nx.refl (.bl _)
theorem opn_inL {i : Nat} {ns : List Nat} : OpD X T (compareOp .In) (nD i) (.list (ns.map nD)) (.bool (decide (i ∈ ns))) := fun S R σ H a b Q I ra rb q => by
  cases ra
  cases rb with
  | @lst p xs _ h r =>
    obtain ⟨h1, h2⟩ := inV_nat (i := i) r
    refine ⟨_, op_in_seq, p, xs, rfl, .inl (SqL.of (I.le _ _ h)), rfl, h1, ?_⟩
    show Q (.bl (inV _ xs)) H
    rw [h2]
    exact q R _ H I Nx.refl (.bl _)
end
end PL
set_option maxHeartbeats 4000000
namespace PL
open PySem PySem.Spec PyProof.Rows L2 RZ
/-! ### a row's rests; the first place with a rest -/
def rwL (p n : Nat) : List Nat := (List.range (n + 1)).map fun k => C n k % p
theorem rwL_len (p n : Nat) : (rwL p n).length = n + 1 := by unfold rwL; rw [List.length_map, List.length_range]
theorem rwL_get {p n i : Nat} (h : i ≤ n) : (rwL p n)[i]? = some (C n i % p) := by
  unfold rwL; rw [List.getElem?_map, List.getElem?_range (by omega)]; rfl
theorem rwL_getD {p n i : Nat} (h : i ≤ n) : (rwL p n).getD i 0 = C n i % p := by
  rw [List.getD_eq_getElem?_getD, rwL_get h]; rfl
theorem mem_rwL {p n t : Nat} : t ∈ rwL p n ↔ ∃ j, j ≤ n ∧ C n j % p = t := by
  unfold rwL
  rw [List.mem_map]
  exact ⟨fun ⟨j, h, e⟩ => ⟨j, by have := List.mem_range.mp h; omega, e⟩, fun ⟨j, h, e⟩ => ⟨j, List.mem_range.mpr (by omega), e⟩⟩
theorem mem_rwL_take {p n t s : Nat} (hs : s ≤ n) : t ∈ (rwL p n).take s ↔ ∃ j, j < s ∧ C n j % p = t := by
  unfold rwL
  rw [← List.map_take, List.take_range, Nat.min_eq_left (by omega), List.mem_map]
  exact ⟨fun ⟨j, h, e⟩ => ⟨j, List.mem_range.mp h, e⟩, fun ⟨j, h, e⟩ => ⟨j, List.mem_range.mpr h, e⟩⟩
def rowF (p t n : Nat) : Option Nat := (List.range (n + 1)).find? fun s => decide (C n s % p = t)
theorem rowF_some {p t n s : Nat} : rowF p t n = some s ↔ (s ≤ n ∧ C n s % p = t ∧ ∀ j, j < s → C n j % p ≠ t) := by
  unfold rowF
  rw [List.find?_eq_some_iff_getElem]
  constructor
  · rintro ⟨h1, i, hi, e, h3⟩
    rw [List.getElem_range] at e
    subst e
    rw [List.length_range] at hi
    refine ⟨by omega, of_decide_eq_true h1, fun j hj => ?_⟩
    have := h3 j hj
    rw [List.getElem_range] at this
    simpa using this
  · rintro ⟨h1, h2, h3⟩
    refine ⟨decide_eq_true h2, s, by rw [List.length_range]; omega, by rw [List.getElem_range], fun j hj => ?_⟩
    rw [List.getElem_range]
    simpa using h3 j hj
theorem rowF_none {p t n : Nat} : rowF p t n = none ↔ ∀ j, j ≤ n → C n j % p ≠ t := by
  unfold rowF
  rw [List.find?_eq_none]
  exact ⟨fun h j hj => by have := h j (List.mem_range.mpr (by omega)); simpa using this, fun h j hj => by have := h j (by have := List.mem_range.mp hj; omega); simpa using this⟩
def fwS (p t : Nat) : Nat → Nat → Nat × Nat
  | 0, m => (m, 0)
  | f + 1, m => match rowF p t m with
    | some s => (m, s)
    | none => fwS p t f (m + 1)
def fw (p t m : Nat) : Nat × Nat := fwS p t (p + 1) m
theorem fwS_some {p t f m s : Nat} (h : rowF p t m = some s) : fwS p t (f + 1) m = (m, s) := by
  show (match rowF p t m with | some s => (m, s) | none => fwS p t f (m + 1)) = _
  rw [h]
theorem fwS_none {p t f m : Nat} (h : rowF p t m = none) : fwS p t (f + 1) m = fwS p t f (m + 1) := by
  show (match rowF p t m with | some s => (m, s) | none => fwS p t f (m + 1)) = _
  rw [h]
theorem ex_row {p t : Nat} (hp : Pr p) (ht : t < p) (m : Nat) : ∃ l, m ≤ l ∧ l ≤ m + p ∧ rowF p t l ≠ none := by
  have h2 := Pr_two hp
  obtain ⟨l, h1, h3, h4⟩ : ∃ l, m + 1 ≤ l ∧ l ≤ m + p ∧ l % p = t := by
    refine ⟨m + 1 + (t + p - (m + 1) % p) % p, by omega, ?_, ?_⟩
    · have := Nat.mod_lt (t + p - (m + 1) % p) (show p > 0 by omega); omega
    · rcases hp with rfl | rfl | rfl | rfl <;> omega
  refine ⟨l, by omega, h3, fun z => ?_⟩
  exact rowF_none.mp z 1 (by omega) (by rw [C_one, h4])
/-- what the first place is -/
structure IsF (p t m n s : Nat) : Prop where
  ge : m ≤ n
  le : n ≤ m + p
  sn : s ≤ n
  at_ : C n s % p = t
  no : ∀ j, j < s → C n j % p ≠ t
  rows : ∀ l, m ≤ l → l < n → ∀ j, j ≤ l → C l j % p ≠ t
theorem fwS_is {p t : Nat} : ∀ (f m : Nat), (∃ l, m ≤ l ∧ l < m + f ∧ rowF p t l ≠ none) → ∃ s n, fwS p t f m = (n, s) ∧ m ≤ n ∧ n < m + f ∧ rowF p t n = some s ∧ ∀ l, m ≤ l → l < n → rowF p t l = none
  | 0, m, ⟨l, h1, h2, _⟩ => by omega
  | f + 1, m, ⟨l, h1, h2, h3⟩ => by
    cases e : rowF p t m with
    | some s => exact ⟨s, m, fwS_some e, Nat.le_refl _, by omega, e, fun l h1 h2 => by omega⟩
    | none =>
      obtain ⟨s, n, q1, q2, q3, q4, q5⟩ := fwS_is f (m + 1) ⟨l, by
        by_cases g : l = m
        · subst g; exact absurd e h3
        · omega, by omega, h3⟩
      exact ⟨s, n, by rw [fwS_none e]; exact q1, by omega, by omega, q4, fun l h1 h2 => by
        by_cases g : l = m
        · subst g; exact e
        · exact q5 l (by omega) h2⟩
theorem fw_is {p t : Nat} (hp : Pr p) (ht : t < p) (m : Nat) : IsF p t m (fw p t m).1 (fw p t m).2 := by
  obtain ⟨l, h1, h2, h3⟩ := ex_row hp ht m
  obtain ⟨s, n, q1, q2, q3, q4, q5⟩ := fwS_is (p + 1) m ⟨l, h1, by omega, h3⟩
  have e : fw p t m = (n, s) := q1
  rw [e]
  have q4 := rowF_some.mp q4
  exact ⟨q2, by show n ≤ m + p; omega, q4.1, q4.2.1, q4.2.2, fun l a b => rowF_none.mp (q5 l a b)⟩
theorem fw_self {p t n s : Nat} (h : rowF p t n = some s) : fw p t n = (n, s) := fwS_some h
theorem fw_again {p t m : Nat} (hp : Pr p) (ht : t < p) : fw p t (fw p t m).1 = fw p t m := by
  have h := fw_is hp ht m
  rw [fw_self (rowF_some.mpr ⟨h.sn, h.at_, h.no⟩)]
theorem fw_one {p : Nat} (hp : 2 ≤ p) (m : Nat) : fw p 1 m = (m, 0) := fw_self (rowF_some.mpr ⟨Nat.zero_le _, by rw [C_zero, Nat.mod_eq_of_lt (by omega)], fun j hj => by omega⟩)
theorem NR_mulp {p n r : Nat} (hp : Pr p) (hr : 0 < r) : NR p (n * p) r = NR p n r := by
  have h2 := Pr_two hp
  unfold NR
  rw [FS_step hp (n * p) (by rw [if_neg (by omega)]), Nat.mul_mod_left, Nat.mul_div_cancel _ (by omega)]
  show ((List.range 1).map _).sum = _
  rw [List.range_one, List.map_cons, List.map_nil, List.sum_cons, List.sum_nil, Nat.add_zero]
  refine FS_congr h2 n fun x hx => ?_
  rw [C_zero, Nat.mul_one, Nat.mod_eq_of_lt hx]
theorem rsL_mulp {p n : Nat} (hp : Pr p) : (rsL p (n * p)).drop 1 = (rsL p n).drop 1 := by
  apply List.ext_getElem?
  intro i
  rw [List.getElem?_drop, List.getElem?_drop]
  unfold rsL
  rw [List.getElem?_map, List.getElem?_map]
  by_cases g : 1 + i < p
  · rw [List.getElem?_range g]; show some (NR p (n * p) (1 + i)) = some (NR p n (1 + i)); rw [NR_mulp hp (by omega)]
  · rw [List.getElem?_eq_none (by rw [List.length_range]; omega)]; rfl
def pairD (a : Nat × Nat) : PyData := .tuple [nD a.1, nD a.2]
theorem eqv_pair (a b : Nat × Nat) : PyData.eqv (pairD a) (pairD b) = decide (a = b) := by
  obtain ⟨a1, a2⟩ := a
  obtain ⟨b1, b2⟩ := b
  have := eqv_TN [a1, a2] [b1, b2]
  refine Eq.trans this (dec_congr ?_)
  simp
theorem shaped_pair (a : Nat × Nat) : SeqAt.shaped (pairD a) = true := shaped_TN [a.1, a.2]
def sp_row : SpD := spE e2 (fun a => a.1 ≤ 100000 ∧ Pr a.2) fun a => eT (rwL a.2 a.1)
def sp_first_with : SpD := spE e3 (fun a => a.2.2 < 2 ^ 50 ∧ Pr a.1 ∧ a.2.1 < a.1) fun a => pairD (fw a.1 a.2.1 a.2.2)
def sp_rows_alike : SpD := spE e3 (fun a => a.1 ≤ 100000 ∧ a.2.1 ≤ 100000 ∧ Pr a.2.2) fun a => .bool (decide (srt (rwL a.2.2 a.1) = srt (rwL a.2.2 a.2.1)))
end PL
set_option maxHeartbeats 4000000
namespace PL
open PySem PySem.Spec PyProof.Rows L2 RZ
/-! ### walks; sums of columns, with signs -/
def wk : Nat → Nat → Nat
  | 0, h => if h = 0 then 1 else 0
  | t + 1, h => (if h = 0 then 0 else wk t (h - 1)) + wk t (h + 1)
theorem wk_big : ∀ {t h : Nat}, t < h → wk t h = 0
  | 0, h, g => if_neg (by omega)
  | t + 1, h, g => by
    show (if h = 0 then 0 else wk t (h - 1)) + wk t (h + 1) = 0
    rw [if_neg (by omega), wk_big (by omega), wk_big (by omega)]
def Cm (t : Nat) : Nat → Nat
  | 0 => 0
  | k + 1 => C t k
theorem Cm_step (t k : Nat) : Cm (t + 1) (k + 1) = Cm t (k + 1) + Cm t k := by
  cases k with
  | zero => show C (t + 1) 0 = C t 0 + 0; rw [C_zero, C_zero]
  | succ k => show C (t + 1) (k + 1) = C t (k + 1) + C t k; rw [C_pascal]; omega
theorem wk_closed : ∀ (t h k : Nat), t = h + 2 * k → wk t h + Cm t k = C t k
  | 0, h, k, e => by
    have h0 : h = 0 := by omega
    have k0 : k = 0 := by omega
    subst h0 k0
    rfl
  | t + 1, h, k, e => by
    show (if h = 0 then 0 else wk t (h - 1)) + wk t (h + 1) + Cm (t + 1) k = C (t + 1) k
    by_cases g : h = 0
    · rw [if_pos g]
      obtain ⟨j, rfl⟩ : ∃ j, k = j + 1 := ⟨k - 1, by omega⟩
      have i1 := wk_closed t (h + 1) j (by omega)
      have s1 : C t j = C t (j + 1) := by
        have := C_symm (n := t) (k := j) (by omega)
        rw [← this, show t - j = j + 1 by omega]
      rw [Cm_step, C_pascal]
      have e2 : Cm t (j + 1) = C t j := rfl
      omega
    · rw [if_neg g]
      have i1 := wk_closed t (h - 1) k (by omega)
      cases k with
      | zero =>
        rw [wk_big (t := t) (h := h + 1) (by omega)]
        have e2 : Cm (t + 1) 0 = 0 := rfl
        have e3 : Cm t 0 = 0 := rfl
        rw [C_zero] at *
        omega
      | succ k =>
        have i2 := wk_closed t (h + 1) k (by omega)
        rw [Cm_step, C_pascal]
        omega
theorem wk_cat (n : Nat) : C (2 * n) n = wk (2 * n) 0 + C (2 * n) (n + 1) := by
  have h := wk_closed (2 * n) 0 n (by omega)
  have e : Cm (2 * n) n = C (2 * n) (n + 1) := by
    cases n with
    | zero => rfl
    | succ m =>
      show C (2 * (m + 1)) m = _
      have := C_symm (n := 2 * (m + 1)) (k := m) (by omega)
      rw [← this, show 2 * (m + 1) - m = m + 1 + 1 by omega]
  omega
theorem sub_modZ {a b c p : Nat} (h : a = c + b) : (((a % p : Nat) : Int) - ((b % p : Nat) : Int)) % (p : Int) = ((c % p : Nat) : Int) := by
  rw [Int.natCast_emod, Int.natCast_emod, ← Int.sub_emod, h, Int.natCast_emod, Int.natCast_add, Int.add_sub_cancel]
theorem brk_wk {p : Nat} (hp : 0 < p) (n : Nat) : brk p n = wk (2 * n) 0 % p := by
  have h := brk_int hp n
  rw [sub_modZ (wk_cat n)] at h
  exact (Int.ofNat.inj h).symm
/-- the inner loop of the walks -/
def LT (t : Nat) : Nat → Nat → Nat
  | 0 => fun _ => 0
  | i + 1 => if i = 0 then updF (LT t i) 1 (wk t 0) else updF (updF (LT t i) (i + 1) (wk t i)) (i - 1) (wk t i)
theorem LT_eq (t : Nat) : ∀ i j, LT t i j = (if 1 ≤ j ∧ j ≤ i then wk t (j - 1) else 0) + (if j + 1 < i then wk t (j + 1) else 0)
  | 0, j => by
    show 0 = _
    rw [if_neg (by omega), if_neg (by omega)]
  | i + 1, j => by
    have ih := LT_eq t i j
    by_cases g : i = 0
    · have e : LT t (i + 1) = updF (LT t i) 1 (wk t 0) := if_pos g
      rw [e]
      unfold updF
      rw [ih]
      subst g
      by_cases h1 : j = 1
      · subst h1; simp
      · rw [if_neg h1, if_neg (by omega), if_neg (by omega), if_neg (by omega), if_neg (by omega)]
    · have e : LT t (i + 1) = updF (updF (LT t i) (i + 1) (wk t i)) (i - 1) (wk t i) := if_neg g
      rw [e]
      unfold updF
      rw [ih]
      by_cases h1 : j = i + 1
      · subst h1
        rw [if_neg (by omega), if_pos rfl, if_neg (by omega), if_neg (by omega), if_pos (by omega), if_neg (by omega), Nat.add_sub_cancel]; omega
      · by_cases h2 : j = i - 1
        · have h3 : j + 1 = i := by omega
          rw [if_pos h2, if_neg h1, if_neg (show ¬ (j + 1 < i) by omega), if_pos (show j + 1 < i + 1 by omega), h3]
          by_cases h4 : 1 ≤ j
          · rw [if_pos ⟨h4, by omega⟩, if_pos ⟨h4, by omega⟩]; omega
          · rw [if_neg (by omega), if_neg (by omega)]
        · rw [if_neg h2, if_neg h1]
          congr 1
          · by_cases h4 : 1 ≤ j ∧ j ≤ i
            · rw [if_pos h4, if_pos (by omega)]
            · rw [if_neg h4, if_neg (by omega)]
          · by_cases h4 : j + 1 < i
            · rw [if_pos h4, if_pos (by omega)]
            · rw [if_neg h4, if_neg (by omega)]
theorem LT_top (t : Nat) : (List.range (t + 2)).map (LT t (t + 1)) = (List.range (t + 2)).map (wk (t + 1)) := by
  refine List.map_congr_left fun j hj => ?_
  have hj := List.mem_range.mp hj
  rw [LT_eq]
  show _ = (if j = 0 then 0 else wk t (j - 1)) + wk t (j + 1)
  by_cases g : j = 0
  · rw [if_neg (by omega), if_pos g]
    by_cases g2 : j + 1 < t + 1
    · rw [if_pos g2]
    · rw [if_neg g2, wk_big (t := t) (h := j + 1) (by omega)]
  · rw [if_pos (by omega), if_neg g]
    by_cases g2 : j + 1 < t + 1
    · rw [if_pos g2]
    · rw [if_neg g2, wk_big (t := t) (h := j + 1) (by omega)]
theorem LT_zero (t m : Nat) : (List.range m).map (LT t 0) = List.replicate m 0 := by
  apply List.ext_getElem
  · simp
  · intro i h1 h2
    rw [List.getElem_map, List.getElem_replicate]; rfl
/-! sums of a column -/
theorem hockey (s : Nat) : ∀ n : Nat, ((List.range n).map fun i => C i s).sum = C n (s + 1)
  | 0 => rfl
  | n + 1 => by rw [sum_range_succ, hockey s n, C_pascal]; omega
theorem sum_filter_zero {l : List Nat} {q : Nat → Bool} {f : Nat → Nat} (h : ∀ x ∈ l, q x = false → f x = 0) : ((l.filter q).map f).sum = (l.map f).sum := by
  induction l with
  | nil => rfl
  | cons x r ih =>
    have ih := ih fun y hy => h y (List.mem_cons_of_mem _ hy)
    rw [List.filter_cons]
    by_cases g : q x = true
    · rw [if_pos g, List.map_cons, List.sum_cons, ih, List.map_cons, List.sum_cons]
    · rw [if_neg g, ih, List.map_cons, List.sum_cons, h x List.mem_cons_self (by simpa using g), Nat.zero_add]
theorem hockey_f (s n : Nat) : (((List.range (n + 1)).filter fun i => decide (s < i + 1)).map fun i => C i s).sum = C (n + 1) (s + 1) := by
  rw [sum_filter_zero, hockey]
  intro x _ hx
  have := of_decide_eq_false hx
  exact C_gt (by omega)
/-! the first numbers of a row, with signs -/
def sgN (n i : Nat) : Int := ((C n i : Nat) : Int) - ((2 * C n i * (i % 2) : Nat) : Int)
def sgS (n : Nat) : Nat → Int
  | 0 => 0
  | i + 1 => sgS n i + sgN n i
theorem sgS_sum (n : Nat) : ∀ m : Nat, ((List.range m).map (sgN n)).sum = sgS n m
  | 0 => rfl
  | m + 1 => by
    rw [List.range_succ, List.map_append, List.sum_append, sgS_sum n m]
    show _ + (sgN n m + 0) = sgS n m + sgN n m
    omega
theorem sgN_eq (n i : Nat) : sgN n i = if i % 2 = 1 then -((C n i : Nat) : Int) else ((C n i : Nat) : Int) := by
  unfold sgN
  by_cases g : i % 2 = 1
  · rw [if_pos g, g, Nat.mul_one]; omega
  · rw [if_neg g, show i % 2 = 0 by omega, Nat.mul_zero]; simp
theorem sgS_fs {p : Nat} (hp : 2 ≤ p) {n : Nat} (hn : 0 < n) : ∀ s : Nat, sgS n (s + 1) % (p : Int) = fsZ p s n
  | 0 => by
    rw [fsZ_zero hp]
    show (0 + sgN n 0) % (p : Int) = 1
    rw [sgN_eq, if_neg (by decide), C_zero, Int.zero_add]
    exact Int.emod_eq_of_lt (by decide) (by omega)
  | s + 1 => by
    have ih := sgS_fs hp hn s
    rw [fsZ_step (by omega) hn, Nat.add_sub_cancel, ← ih]
    show (sgS n (s + 1) + sgN n (s + 1)) % (p : Int) = _
    rw [sgN_eq]
    by_cases g : (s + 1) % 2 = 1
    · rw [if_pos g, if_pos g, Int.emod_add_emod, Int.natCast_emod, ← Int.add_emod_emod (sgS n (s + 1)) (((0 : Nat) : Int) - _), ← Int.add_emod_emod (sgS n (s + 1)) (-_)]
      congr 2
      rw [Int.sub_emod, Int.emod_emod, ← Int.sub_emod]
      congr 1
      show _ = (0 : Int) - _
      omega
    · rw [if_neg g, if_neg g, Int.emod_add_emod, Int.natCast_emod, Int.add_emod_emod]
theorem sg_cut {p : Nat} (hp : 2 ≤ p) (n s : Nat) : sgS n (min (s + 1) (n + 1)) % (p : Int) = fsZ p s n := by
  rcases Nat.eq_zero_or_pos n with h | h
  · subst h
    rw [show min (s + 1) (0 + 1) = 1 by omega]
    have e : fsZ p s 0 = 1 := by unfold fsZ; rw [if_pos rfl]
    rw [e]
    show (0 + sgN 0 0) % (p : Int) = 1
    rw [sgN_eq, if_neg (by decide), C_zero, Int.zero_add]
    exact Int.emod_eq_of_lt (by decide) (by omega)
  · by_cases g : s ≤ n
    · rw [Nat.min_eq_left (by omega), sgS_fs hp h]
    · rw [Nat.min_eq_right (by omega), sgS_fs hp h, fsZ_top (Nat.le_refl _), fsZ_top (by omega)]
theorem first_diff {p n s : Nat} (hp : 2 ≤ p) (hn : 0 < n) : (fsZ p (s + 1) n - fsZ p s n) * (if s % 2 = 0 then -1 else 1) % (p : Int) = ((C n (s + 1) % p : Nat) : Int) := by
  rw [fsZ_step (by omega) hn, Nat.add_sub_cancel]
  generalize fsZ p s n = F
  have key : ∀ e : Int, ∀ g : Int, ((F + e) % (p : Int) - F) * g % (p : Int) = e * g % (p : Int) := fun e g => by
    rw [Int.mul_emod, Int.sub_emod, Int.emod_emod, ← Int.sub_emod, ← Int.mul_emod]
    congr 2
    omega
  rw [key]
  by_cases g : s % 2 = 0
  · rw [if_pos g, if_pos (by omega)]
    rw [show ((((0 : Nat) : Int)) - ((C n (s + 1) % p : Nat) : Int)) * -1 = ((C n (s + 1) % p : Nat) : Int) by omega, ← Int.natCast_emod, Nat.mod_mod]
  · rw [if_neg g, if_neg (by omega), Int.mul_one, ← Int.natCast_emod, Nat.mod_mod]
theorem col_diff {p n s : Nat} (hn : 0 < n) : (((C (n + 1) (s + 1) % p : Nat) : Int) - ((C (n - 1 + 1) (s + 1) % p : Nat) : Int)) % (p : Int) = ((C n s % p : Nat) : Int) :=
  sub_modZ (by rw [C_pascal, show n - 1 + 1 = n by omega])
end PL
set_option maxHeartbeats 4000000
/-! tuples made by tuple(list), of which methods may be asked: t.count(x) -/
namespace PL
open PySem PySem.Spec PyProof.Rows L2 RZ
abbrev tM (ns : List Nat) : PyData := .dict [(.tuple (ns.map nD), .none)]
section
variable {X : Cx} {T : Option Addr} {S : Sta} {e a o : Expr} {es : List Expr} {pos p2 p3 apos cpos : Pos} {d : PyData}
theorem rp_tM {K : PySem.W.Frag} {R : Hp} {v : V} {ns : List Nat} (h : Rp K R v (tM ns)) : ∃ (l : Addr) (ob : Obj), v = .ref l ∧ R l = some (.frz ob (.tup (ns.map fun (n : Nat) => V.int (n : Int)))) ∧ ob.dict = none := by
  have e0 : ns.map nD = (ns.map fun (n : Nat) => (n : Int)).map PyData.int := nD_ints ns
  unfold tM at h
  rw [e0] at h
  generalize hz : (ns.map fun (n : Nat) => (n : Int)) = zs at h
  generalize hd : PyData.dict [(PyData.tuple (zs.map PyData.int), PyData.none)] = d0 at h
  cases h with
  | @ptu l ob ms q r =>
    have e1 : zs.map PyData.int = ms.map PyData.int := by
      injection hd with h1
      injection h1 with h2
      injection h2 with h3
      injection h3
    have e2 : zs = ms := by
      have h4 := congrArg (List.map fun d => match d with | PyData.int i => i | _ => 0) e1
      rw [List.map_map, List.map_map] at h4
      have e5 : ((fun d => match d with | PyData.int i => i | _ => (0 : Int)) ∘ PyData.int) = id := rfl
      rw [e5, List.map_id, List.map_id] at h4
      exact h4
    subst e2
    refine ⟨l, ob, rfl, ?_, r⟩
    rw [q, ← hz, List.map_map]; rfl
  | rf => cases hd
  | non => cases hd
  | bl b => cases hd
  | int b => cases hd
  | str b => cases hd
  | lst q r => cases hd
  | tup q r => cases hd
theorem rp_wk {K : PySem.W.Frag} {R : Hp} {v : V} {ns : List Nat} (h : Rp K R v (tM ns)) : Rp K R v (.tuple (ns.map nD)) := by
  obtain ⟨l, ob, rfl, q, _⟩ := rp_tM h
  rw [nD_ints]
  refine .tup (.inl (.inr ⟨ob, q⟩)) ?_
  have := rpa_ints (K := K) (R := R) (ns.map fun (n : Nat) => (n : Int))
  rw [List.map_map] at this
  exact this
theorem evp_wkM {ns : List Nat} (h : EvP X T e S (tM ns)) : EvP X T e S (.tuple (ns.map nD)) := fun R σ H I Q q => h R σ H I Q fun R1 v H1 d b ⟨e1, e2⟩ I1 n1 r1 => by
  subst e1 e2
  exact q R1 v H1 _ _ ⟨rfl, rfl⟩ I1 n1 (rp_wk r1)
theorem call_tuple_frz : CallR X (.type "tuple") (fun xs H Q => ∃ p ys, xs = [.ref p] ∧ SqL X.K H p ys ∧ ∀ l ob, ob.dict = none → H l = none → Q (.ref l) (upd H l (.frz ob (.tup ys)))) := by
  intro pins s σ H xs us Q I r h
  obtain ⟨p, ys, rfl, hq, q⟩ := h
  rw [Vals.ref1 r]
  obtain ⟨its, r', pl, hz⟩ := I.list hq
  have hlen := r'.length
  refine call_tuple_list pl.isList (fun h' kp => ?_) (by simp only [List.size_toArray] <;> omega)
  have I1 : Inv X pins σ H { s with heap := h' } := I.kept (t' := s.toks) kp
  have I2 : Inv X pins σ (upd H h'.objs.size (.frz { cls := .type "tuple", data := .seq its.toArray } (.tup ys))) { s with heap := h'.push { cls := .type "tuple", data := .seq its.toArray } } :=
    I1.laid (t' := s.toks) (fun b o e => Heap.get?_push_of_some _ e) (Nat.le_refl _) (show ObjOk X.prog X.w _ _ _ (.frz _ (.tup ys)) from ⟨Heap.get?_push_size _ rfl, hz, its, r', IsTup.new _ _⟩)
  exact ⟨.ref h'.objs.size, _, I2, rfl, q _ _ rfl (I1.hok.fresh (Nat.le_refl _))⟩
theorem cd_tupM {ns : List Nat} : CallD X T (.type "tuple") [.list (ns.map nD)] (tM ns) := fun S R σ H vs Q I r q => by
  obtain ⟨v, rfl, r1⟩ := r.one
  rw [nD_ints] at r1
  cases r1 with
  | @lst a xs _ h r =>
    rw [r.ints] at h
    refine ⟨_, call_tuple_frz, a, _, rfl, SqL.of (I.le _ _ h), fun l ob hd hl => q _ _ _ (I.laid2 hl) (Nx.laid2 I.le hl) ?_⟩
    unfold tM
    rw [nD_ints]
    exact .ptu upd_same hd
theorem mt_tcount : MtR X "tuple.count" (fun x xs H Q => ∃ (p : Addr) (ns : List Int) (k : Int), x = .ref p ∧ xs = [.int k] ∧ SqT X.K H p (ns.map V.int) ∧ Q (.int (ns.count k : Nat)) H) := by
  intro pins s σ H x xs v us Q I rx rxs h
  obtain ⟨p, ns, k, rfl, rfl, hs, q⟩ := h
  cases rx
  obtain ⟨u, rfl, ru⟩ := rxs.one
  obtain ⟨t, rfl⟩ := ru
  obtain ⟨its, rv, ⟨⟨cls, dd, data, sl⟩, ho, hc, n, hd⟩, hlen⟩ := I.tuple hs
  simp only at hc hd
  subst hc hd
  have hi := ints_of_vals rv
  refine call_meets PySem.F.slot_tuple_count ⟨_, ho, rfl⟩ PySem.F.entry_tuple_count (PySem.F.args_tuple_count_2 _ _)
    (SeqAt.tuple_countAt p its.toArray n dd sl (.int k t) (eqk k)) ⟨ho, fun y hy => (eqk_gives hi y (by simpa using hy)).at _ _, ?_⟩
  have ec : its.toArray.toList.countP (eqk k) = ns.count k := eqk_count hi
  refine ⟨.int (ns.count k : Nat), H, I.tok _, ⟨s.toks, ?_⟩, q⟩
  show Value.int ((its.toArray.toList.countP (eqk k) : Nat) : Int) s.toks = Value.int ((ns.count k : Nat) : Int) s.toks
  rw [ec]
theorem pe_tcount {to : TE} {t : TA} {r : V → List V → Hp → VK → Prop} (hm : MtR X "tuple.count" r) (ho : PE X o to) (ha : PA X (e :: es) t)
    (hbase : attributeBase o "count" X.env (eval o X.env) = eval o X.env := by rfl)
    (hfew : ((backTo cpos (starEach (e :: es) X.env)).all (fun x => !x.1) && (backToKw cpos (keywordEach [] X.env)).all (fun x => x.1.isSome)
      && decide ((e :: es).length + ([] : List Keyword).length + (if ([] : List Keyword).isEmpty then 0 else 1) < 30)) = true := by rfl)
    (hline : (apos.endLine == cpos.line) = true := by rfl) (hs : starEach (e :: es) X.env = (false, eval e X.env) :: starEach es X.env := by rfl) (hplain : (backTo cpos (starEach es X.env)).any (·.1) = false := by rfl) :
    PE X (.Call (.Attribute o "count" apos) (e :: es) [] cpos) (fun σ H Q => to σ H fun x H1 => (∃ p ob ys, x = .ref p ∧ H1 p = some (.frz ob (.tup ys)) ∧ ob.dict = none) ∧ t σ H1 fun xs H2 => r x xs H2 Q) := by
  refine ⟨fun pins s σ H Q I h => ?_⟩
  refine wpAny_Call_method_late hbase hfew hline rfl (thn (ho.run pins s σ H _ I h) fun v s1 ⟨x, H1, I1, r1, ty, q1⟩ => ?_)
  obtain ⟨p, ob, ys, rfl, hp, hdn⟩ := ty
  cases r1
  obtain ⟨ho1, hz, its, rv, hl⟩ := I1.hok p _ hp
  refine ⟨"tuple", "tuple.count", PySem.F.plainAttrs_tuple, PySem.F.slot_tuple_count, PySem.F.type_tuple_count, hl.typeIs, fun a e => ?_, ?_⟩
  · cases e
    exact ⟨ob, ho1, hdn⟩
  have hA := ha.run cpos pins s1 σ H1 _ I1 q1
  rw [hs] at hA ⊢
  refine Calls.callWith_builtin (by show (false || (backTo cpos (starEach es X.env)).any (·.1)) = false; rw [hplain] <;> rfl) (Calls.evalArgs_plain ?_)
  exact thn hA fun us s2 ⟨vs, H2, I2, r2, q2⟩ => hm pins s2 σ H2 (V.ref p) vs (Value.ref p) us Q I2 rfl r2 q2
theorem count_int (ns : List Nat) (i : Nat) : (ns.map fun (n : Nat) => (n : Int)).count (i : Int) = ns.count i := by
  induction ns with
  | nil => rfl
  | cons n r ih =>
    rw [List.map_cons, List.count_cons, List.count_cons, ih]
    by_cases g : n = i
    · subst g; simp
    · have : ¬ ((n : Int) = (i : Int)) := by omega
      simp [g, this]
theorem evp_countM {ns : List Nat} {i : Nat} (h : EvP X T o S (tM ns)) (ha : EvP X T a S (nD i))
    (hbase : attributeBase o "count" X.env (eval o X.env) = eval o X.env := by rfl)
    (hfew : ((backTo cpos (starEach [a] X.env)).all (fun x => !x.1) && (backToKw cpos (keywordEach [] X.env)).all (fun x => x.1.isSome)
      && decide (([a] : List Expr).length + ([] : List Keyword).length + (if ([] : List Keyword).isEmpty then 0 else 1) < 30)) = true := by rfl)
    (hline : (apos.endLine == cpos.line) = true := by rfl) (hs : starEach [a] X.env = (false, eval a X.env) :: starEach [] X.env := by rfl) (hplain : (backTo cpos (starEach ([] : List Expr) X.env)).any (·.1) = false := by rfl) :
    EvP X T (.Call (.Attribute o "count" apos) [a] [] cpos) S (nD (ns.count i)) := fun R σ H I Q q =>
  wpE_of (pe_tcount mt_tcount pe_wp (pa_cons pe_wp pa_nil hs) hbase hfew hline hs hplain) (h R σ H I _ fun R1 v H1 d b ⟨e1, e2⟩ I1 n1 r1 => by
    subst e1 e2
    obtain ⟨l, ob, rfl, hl, hd⟩ := rp_tM r1
    refine ⟨⟨l, ob, _, rfl, I1.le _ _ hl, hd⟩, ha R1 σ H1 I1 _ fun R2 w H2 d2 b2 ⟨e1, e2⟩ I2 n2 r2 => ?_⟩
    subst e1 e2
    cases r2
    refine ⟨l, ns.map fun (n : Nat) => (n : Int), (i : Int), rfl, rfl, ?_, ?_⟩
    · rw [List.map_map]
      exact .inl (.inr ⟨ob, I2.le _ _ (n2.lr _ _ hl)⟩)
    · rw [count_int]
      exact q R2 _ H2 _ _ ⟨rfl, rfl⟩ I2 (n1.trans n2) (.int _))
end
end PL
set_option maxHeartbeats 4000000
/-! max, min of a tuple of ints; stretches of noughts -/
namespace PL
open PySem PySem.Spec PyProof.Rows L2 RZ
section
variable {prog : Program} {w : World} {A : Around} {E : Value → Shared → Prop} {s : Shared} {l : Addr} {its : List Value} {ns : List Int} {Q : Value → Shared → Prop}
theorem tup_walk (hl : s.heap.IsTuple l its.toArray) : l < s.heap.objs.size ∧ (s.heap.push { cls := .type "tuple_iterator", data := .fields #[.ref l, .int 0 0] }).IsTuple l its.toArray := by
  obtain ⟨o, ho, r⟩ := hl
  exact ⟨Heap.lt_size ho, o, Heap.get?_push_of_some _ ho, r⟩
theorem max_rawT (hh : A.handled = none) (hl : s.heap.IsTuple l its.toArray) (hi : IntsAre its ns) (hne : 0 < ns.length)
    (h : ∀ h' tk M t', (∀ b o, s.heap.get? b = some o → h'.get? b = some o) → M ∈ ns → (∀ a, a ∈ ns → a ≤ M) → Q (.int M t') { s with heap := h', toks := tk }) : wpAny (model prog w) A (call (.builtin "max") [.ref l]) Q E s := by
  obtain ⟨xs, e⟩ := hi.allInts.items
  have hn : numsOf (intItems xs).toList = ns := by rw [← e]; exact hi.numsOf
  rw [nums_intItems] at hn
  subst hn
  rw [e] at hl
  have hsz : 0 < xs.size := by simpa using hne
  have hlt : l < s.heap.objs.size := by obtain ⟨_, e, _⟩ := hl; exact Heap.lt_size e
  refine call_max_walk (wpAny_pyIter_tuple hl ?_)
  refine ⟨_, _, _, _, _, _, _, rfl, Walks.tuple (A := A.in1) hh s.heap.objs.size l (Nat.ne_of_lt hlt) (intItems xs), ⟨⟨_, Heap.get?_push_size _ rfl, rfl, rfl⟩, ?_⟩, fun b hb => ?_, by simpa [intItems] using hsz, CmpOf.ints_gt (numAt xs) (fun _ _ => intItems_at), fun v h' tk hP hk => ?_⟩
  · obtain ⟨o, ho, r⟩ := hl
    exact ⟨o, Heap.get?_push_of_some _ ho, r⟩
  · show b < (s.heap.push _).objs.size
    rw [Heap.size_push]
    rcases List.mem_cons.mp hb with rfl | hb
    · exact Nat.lt_succ_self _
    · rcases List.mem_cons.mp hb with rfl | hb
      · exact Nat.lt_succ_of_lt hlt
      · cases hb
  · have hv : (intItems xs)[argBest (fun i j => decide (numAt xs i > numAt xs j)) (xs.size - 1)]? = some v := by simpa [intItems] using hP
    obtain ⟨t, rfl⟩ := intItems_at hv
    obtain ⟨h1, h2⟩ := argBest_gt (numAt xs) (xs.size - 1)
    refine h h' tk _ t (fun b o e => hk b o (fun z => by
      have : b = s.heap.objs.size := by simpa using z
      subst this
      exact absurd (Heap.lt_size e) (Nat.lt_irrefl _)) (Heap.get?_push_of_some _ e)) ?_ fun a ha => ?_
    · rw [numAt_eq]; exact PySem.getD_mem (by rw [List.length_map, Array.length_toList]; omega)
    · obtain ⟨j, hj, rfl⟩ := mem_getD ha
      rw [List.length_map, Array.length_toList] at hj
      rw [← numAt_eq]; exact h2 j (by omega)
theorem min_rawT (hh : A.handled = none) (hl : s.heap.IsTuple l its.toArray) (hi : IntsAre its ns) (hne : 0 < ns.length)
    (h : ∀ h' tk M t', (∀ b o, s.heap.get? b = some o → h'.get? b = some o) → M ∈ ns → (∀ a, a ∈ ns → M ≤ a) → Q (.int M t') { s with heap := h', toks := tk }) : wpAny (model prog w) A (call (.builtin "min") [.ref l]) Q E s := by
  obtain ⟨xs, e⟩ := hi.allInts.items
  have hn : numsOf (intItems xs).toList = ns := by rw [← e]; exact hi.numsOf
  rw [nums_intItems] at hn
  subst hn
  rw [e] at hl
  have hsz : 0 < xs.size := by simpa using hne
  have hlt : l < s.heap.objs.size := by obtain ⟨_, e, _⟩ := hl; exact Heap.lt_size e
  refine call_min_walk (wpAny_pyIter_tuple hl ?_)
  refine ⟨_, _, _, _, _, _, _, rfl, Walks.tuple (A := A.in1) hh s.heap.objs.size l (Nat.ne_of_lt hlt) (intItems xs), ⟨⟨_, Heap.get?_push_size _ rfl, rfl, rfl⟩, ?_⟩, fun b hb => ?_, by simpa [intItems] using hsz, CmpOf.ints_lt (numAt xs) (fun _ _ => intItems_at), fun v h' tk hP hk => ?_⟩
  · obtain ⟨o, ho, r⟩ := hl
    exact ⟨o, Heap.get?_push_of_some _ ho, r⟩
  · show b < (s.heap.push _).objs.size
    rw [Heap.size_push]
    rcases List.mem_cons.mp hb with rfl | hb
    · exact Nat.lt_succ_self _
    · rcases List.mem_cons.mp hb with rfl | hb
      · exact Nat.lt_succ_of_lt hlt
      · cases hb
  · have hv : (intItems xs)[argBest (fun i j => decide (numAt xs i < numAt xs j)) (xs.size - 1)]? = some v := by simpa [intItems] using hP
    obtain ⟨t, rfl⟩ := intItems_at hv
    obtain ⟨h1, h2⟩ := argBest_lt (numAt xs) (xs.size - 1)
    refine h h' tk _ t (fun b o e => hk b o (fun z => by
      have : b = s.heap.objs.size := by simpa using z
      subst this
      exact absurd (Heap.lt_size e) (Nat.lt_irrefl _)) (Heap.get?_push_of_some _ e)) ?_ fun a ha => ?_
    · rw [numAt_eq]; exact PySem.getD_mem (by rw [List.length_map, Array.length_toList]; omega)
    · obtain ⟨j, hj, rfl⟩ := mem_getD ha
      rw [List.length_map, Array.length_toList] at hj
      rw [← numAt_eq]; exact h2 j (by omega)
end
section
variable {X : Cx} {T : Option Addr} {S : Sta}
theorem cr_maxT (hc : X.calm = true) : CallR X (.builtin "max") (fun vs H Q => ∃ (a : Addr) (ns : List Int), vs = [V.ref a] ∧ SqT X.K H a (ns.map V.int) ∧ 0 < ns.length ∧ ∀ m, m ∈ ns → (∀ y, y ∈ ns → y ≤ m) → Q (.int m) H) := by
  intro pins s σ H vs us Q I r h
  obtain ⟨a, ns, rfl, hs, hne, q⟩ := h
  obtain ⟨its, rv, hl, _⟩ := I.tuple hs
  rw [Vals.ref1 r]
  exact max_rawT (I.ok.hd hc) hl rv.ints hne fun h' tk m t' hk h1 h2 => ⟨.int _, H, I.kept hk, ⟨_, rfl⟩, q m h1 h2⟩
theorem cr_minT (hc : X.calm = true) : CallR X (.builtin "min") (fun vs H Q => ∃ (a : Addr) (ns : List Int), vs = [V.ref a] ∧ SqT X.K H a (ns.map V.int) ∧ 0 < ns.length ∧ ∀ m, m ∈ ns → (∀ y, y ∈ ns → m ≤ y) → Q (.int m) H) := by
  intro pins s σ H vs us Q I r h
  obtain ⟨a, ns, rfl, hs, hne, q⟩ := h
  obtain ⟨its, rv, hl, _⟩ := I.tuple hs
  rw [Vals.ref1 r]
  exact min_rawT (I.ok.hd hc) hl rv.ints hne fun h' tk m t' hk h1 h2 => ⟨.int _, H, I.kept hk, ⟨_, rfl⟩, q m h1 h2⟩
theorem cdn_maxT {ns : List Nat} {m : Nat} (hm : m ∈ ns) (hle : ∀ x ∈ ns, x ≤ m) (hc : X.calm = true := by rfl) : CallD X T (.builtin "max") [.tuple (ns.map nD)] (nD m) := fun S R σ H vs Q I r q => by
  obtain ⟨v, rfl, r1⟩ := r.one
  rw [nD_ints] at r1
  cases r1 with
  | @tup a xs _ h r =>
    rw [r.ints] at h
    refine ⟨_, cr_maxT hc, a, _, rfl, le_t I.le h, by rw [List.length_map]; exact List.length_pos_of_mem hm, fun M h1 h2 => ?_⟩
    obtain ⟨k, hk, rfl⟩ := List.mem_map.mp h1
    have e1 := hle k hk
    have e2 := h2 (m : Int) (List.mem_map.mpr ⟨m, hm, rfl⟩)
    have e3 : k = m := by omega
    subst e3
    exact q R _ H I Nx.refl (.int _)
theorem cdn_minT {ns : List Nat} {m : Nat} (hm : m ∈ ns) (hle : ∀ x ∈ ns, m ≤ x) (hc : X.calm = true := by rfl) : CallD X T (.builtin "min") [.tuple (ns.map nD)] (nD m) := fun S R σ H vs Q I r q => by
  obtain ⟨v, rfl, r1⟩ := r.one
  rw [nD_ints] at r1
  cases r1 with
  | @tup a xs _ h r =>
    rw [r.ints] at h
    refine ⟨_, cr_minT hc, a, _, rfl, le_t I.le h, by rw [List.length_map]; exact List.length_pos_of_mem hm, fun M h1 h2 => ?_⟩
    obtain ⟨k, hk, rfl⟩ := List.mem_map.mp h1
    have e1 := hle k hk
    have e2 := h2 (m : Int) (List.mem_map.mpr ⟨m, hm, rfl⟩)
    have e3 : k = m := by omega
    subst e3
    exact q R _ H I Nx.refl (.int _)
end
theorem ex_min {ns : List Nat} (h : 0 < ns.length) : ∃ m ∈ ns, ∀ x ∈ ns, m ≤ x := by
  induction ns with
  | nil => cases h
  | cons a r ih =>
    cases r with
    | nil => exact ⟨a, List.mem_cons_self, fun x hx => by simp at hx; omega⟩
    | cons b r =>
      obtain ⟨m, hm, hle⟩ := ih (Nat.succ_pos _)
      by_cases g : a ≤ m
      · exact ⟨a, List.mem_cons_self, fun x hx => by
          rcases List.mem_cons.mp hx with rfl | hx
          · exact Nat.le_refl _
          · exact Nat.le_trans g (hle x hx)⟩
      · exact ⟨m, List.mem_cons_of_mem _ hm, fun x hx => by
          rcases List.mem_cons.mp hx with rfl | hx
          · omega
          · exact hle x hx⟩
theorem ex_max {ns : List Nat} (h : 0 < ns.length) : ∃ m ∈ ns, ∀ x ∈ ns, x ≤ m := by
  induction ns with
  | nil => cases h
  | cons a r ih =>
    cases r with
    | nil => exact ⟨a, List.mem_cons_self, fun x hx => by simp at hx; omega⟩
    | cons b r =>
      obtain ⟨m, hm, hle⟩ := ih (Nat.succ_pos _)
      by_cases g : m ≤ a
      · exact ⟨a, List.mem_cons_self, fun x hx => by
          rcases List.mem_cons.mp hx with rfl | hx
          · exact Nat.le_refl _
          · exact Nat.le_trans (hle x hx) g⟩
      · exact ⟨m, List.mem_cons_of_mem _ hm, fun x hx => by
          rcases List.mem_cons.mp hx with rfl | hx
          · omega
          · exact hle x hx⟩
/-! ### stretches of noughts -/
def nsU (l : List (Nat × Nat)) (i : Nat) : List (Nat × Nat) := match l.getLast? with
  | some q => if q.2 = i then l.set (l.length - 1) (q.1, i + 1) else l ++ [(i, i + 1)]
  | none => [(i, i + 1)]
def nsS (p n : Nat) : Nat → List (Nat × Nat)
  | 0 => []
  | i + 1 => if C n i % p = 0 then nsU (nsS p n i) i else nsS p n i
theorem nsU_last (l : List (Nat × Nat)) (i : Nat) : ∃ a, (nsU l i).getLast? = some (a, i + 1) := by
  unfold nsU
  cases h : l.getLast? with
  | none => exact ⟨i, rfl⟩
  | some q =>
    dsimp only
    split
    · refine ⟨q.1, ?_⟩
      have hl : 0 < l.length := by
        cases l with
        | nil => cases h
        | cons a r => exact Nat.succ_pos _
      rw [List.getLast?_eq_getElem?, List.length_set, List.getElem?_set_self (by omega)]
    · exact ⟨i, by rw [List.getLast?_append]; rfl⟩
theorem nsU_le {l : List (Nat × Nat)} {i : Nat} (h : ∀ q ∈ l, q.2 ≤ i) : ∀ q ∈ nsU l i, q.2 ≤ i + 1 := by
  intro q hq
  unfold nsU at hq
  cases hl : l.getLast? with
  | none => rw [hl] at hq; simp at hq; subst hq; exact Nat.le_refl _
  | some z =>
    rw [hl] at hq
    dsimp only at hq
    split at hq
    · rcases List.mem_or_eq_of_mem_set hq with h1 | h1
      · have := h q h1; omega
      · subst h1; exact Nat.le_refl _
    · rcases List.mem_append.mp hq with h1 | h1
      · have := h q h1; omega
      · simp at h1; subst h1; exact Nat.le_refl _
theorem nsS_le (p n : Nat) : ∀ i, ∀ q ∈ nsS p n i, q.2 ≤ i
  | 0, q, h => by cases h
  | i + 1, q, h => by
    have ih := nsS_le p n i
    have h : q ∈ (if C n i % p = 0 then nsU (nsS p n i) i else nsS p n i) := h
    split at h
    · exact nsU_le ih q h
    · have := ih q h; omega
theorem nsS_len (p n : Nat) : ∀ i, (nsS p n i).length ≤ i
  | 0 => Nat.le_refl _
  | i + 1 => by
    have ih := nsS_len p n i
    show (if C n i % p = 0 then nsU (nsS p n i) i else nsS p n i).length ≤ i + 1
    split
    · unfold nsU
      cases h : (nsS p n i).getLast? with
      | none => show 1 ≤ i + 1; omega
      | some q =>
        dsimp only
        split
        · rw [List.length_set]; omega
        · rw [List.length_append]; show _ + 1 ≤ _; omega
    · omega
/-- the last stretch ends here, if and only if the number ahead is divided -/
theorem nsS_last (p n i : Nat) : (∃ q, (nsS p n i).getLast? = some q ∧ q.2 = i) ↔ (0 < i ∧ C n (i - 1) % p = 0) := by
  cases i with
  | zero =>
    constructor
    · rintro ⟨q, h, _⟩; cases h
    · rintro ⟨h, _⟩; omega
  | succ i =>
    rw [Nat.add_sub_cancel]
    show (∃ q, (if C n i % p = 0 then nsU (nsS p n i) i else nsS p n i).getLast? = some q ∧ q.2 = i + 1) ↔ _
    by_cases g : C n i % p = 0
    · rw [if_pos g]
      obtain ⟨a, e⟩ := nsU_last (nsS p n i) i
      exact ⟨fun _ => ⟨Nat.succ_pos _, g⟩, fun _ => ⟨_, e, rfl⟩⟩
    · rw [if_neg g]
      constructor
      · rintro ⟨q, h, e⟩
        have := nsS_le p n i q (List.mem_of_getLast? h)
        omega
      · rintro ⟨_, h⟩; exact absurd h g
def prL (l : List (Nat × Nat)) : List PyData := l.map pairD
theorem prL_last {l : List (Nat × Nat)} {q : Nat × Nat} (h : l.getLast? = some q) : atI (prL l) (-((1 : Nat) : Int)) = some (pairD q) := by
  have hl : 0 < l.length := by
    cases l with
    | nil => cases h
    | cons a r => exact Nat.succ_pos _
  rw [List.getLast?_eq_getElem?] at h
  have e : ixN (prL l).length (-((1 : Nat) : Int)) = some (l.length - 1) := by
    unfold ixN prL
    rw [List.length_map, if_neg (by omega), if_pos (by omega)]
    congr 1; omega
  unfold atI
  rw [e]
  show (prL l)[l.length - 1]? = _
  unfold prL
  rw [List.getElem?_map, h]; rfl
theorem prL_ix {l : List (Nat × Nat)} (h : 0 < l.length) : ixN (prL l).length (-((1 : Nat) : Int)) = some (l.length - 1) := by
  unfold ixN prL
  rw [List.length_map, if_neg (by omega), if_pos (by omega)]
  congr 1; omega
theorem noLs_prL (l : List (Nat × Nat)) : noLs (prL l) = true := noLs_of fun d hd => by
  obtain ⟨q, _, rfl⟩ := List.mem_map.mp hd
  rfl
def sp_noughts : SpD := spE e2 (fun a => a.1 ≤ 100000 ∧ Pr a.2) fun a => .tuple (prL (nsS a.2 a.1 (a.1 + 1)))
end PL
set_option maxHeartbeats 4000000
namespace PL
open PySem PySem.Spec PyProof.Rows L2 RZ
theorem nsU_set {l : List (Nat × Nat)} {i : Nat} {q : Nat × Nat} (h : l.getLast? = some q) (e : q.2 = i) : nsU l i = l.set (l.length - 1) (q.1, i + 1) := by
  unfold nsU; rw [h]; dsimp only; rw [if_pos e]
theorem nsU_app {l : List (Nat × Nat)} {i : Nat} (h : ¬ ∃ q, l.getLast? = some q ∧ q.2 = i) : nsU l i = l ++ [(i, i + 1)] := by
  unfold nsU
  cases e : l.getLast? with
  | none =>
    have : l = [] := by
      cases l with
      | nil => rfl
      | cons a r => rw [List.getLast?_cons] at e; cases e
    subst this; rfl
  | some q =>
    dsimp only
    rw [if_neg fun z => h ⟨q, e, z⟩]
theorem nsS_yes {p n i : Nat} (h : C n i % p = 0) : nsS p n (i + 1) = nsU (nsS p n i) i := if_pos h
theorem nsS_no {p n i : Nat} (h : ¬ C n i % p = 0) : nsS p n (i + 1) = nsS p n i := if_neg h
theorem last_pos {α : Type} {l : List α} {q : α} (h : l.getLast? = some q) : 0 < l.length := by
  cases l with
  | nil => cases h
  | cons a r => exact Nat.succ_pos _
theorem prL_set (l : List (Nat × Nat)) (k : Nat) (q : Nat × Nat) : (prL l).set k (pairD q) = prL (l.set k q) := by
  unfold prL; rw [List.map_set]
theorem prL_app (l : List (Nat × Nat)) (q : Nat × Nat) : prL l ++ [pairD q] = prL (l ++ [q]) := by
  unfold prL; rw [List.map_append]; rfl
theorem prL_empty {l : List (Nat × Nat)} : (prL l).isEmpty = l.isEmpty := by cases l <;> rfl
theorem deep_prL {l : List (Nat × Nat)} (h : l.length ≤ 100000) : deepD 2 (.tuple (prL l)) = true :=
  deep_T (fun d hd => by
    obtain ⟨q, _, rfl⟩ := List.mem_map.mp hd
    rfl) (by unfold prL; rw [List.length_map]; exact h)
theorem rwL_map (p n : Nat) : (rowC n).map (fun x => x % p) = rwL p n := by unfold rowC rwL; rw [List.map_map]; rfl
theorem rwL_count (p n r : Nat) : (rwL p n).count r = NR p n r := by
  rw [NR_filter]
  unfold rwL
  rw [List.count_eq_countP, List.countP_map, List.countP_eq_length_filter]
  congr 1
theorem NR_cnt {p : Nat} (hp : Pr p) (n : Nat) : NR p n 0 + cnt p n = n + 1 := by
  rw [NR_filter, ← nA_top hp]
  have h : ∀ m, ((List.range m).filter fun k => decide (C n k % p = 0)).length + nA p n m = m := fun m => by
    induction m with
    | zero => rfl
    | succ m ih =>
      rw [List.range_succ, List.filter_append, List.length_append, nA_step]
      by_cases z : C n m % p = 0
      · simp [z]; omega
      · simp [z]; omega
  exact h (n + 1)
theorem rsL_get {p n r : Nat} (h : r < p) : (rsL p n).getD r 0 = NR p n r := map_getD h
theorem rsL_sum {p : Nat} (hp : 2 ≤ p) (n : Nat) : (rsL p n).sum = n + 1 := NR_all hp n
theorem rsL_tail {p : Nat} (hp : Pr p) (n : Nat) : ((rsL p n).drop 1).sum = cnt p n := by
  have h2 := Pr_two hp
  have h1 := sum_tail (show 0 < p by omega) (NR p n)
  have h3 := NR_all h2 n
  have h4 := NR_cnt hp n
  show (((List.range p).map (NR p n)).drop 1).sum = _
  omega
theorem rsL_counts (p n : Nat) : (List.range p).map (fun r => (rwL p n).count r) = rsL p n := by
  unfold rsL
  exact List.map_congr_left fun r _ => rwL_count p n r
end PL
set_option maxHeartbeats 4000000
/-! t[::k]; list(range(a, b)); x.extend(a new list); any(noughts) -/
namespace PL
open PySem PySem.Spec PyProof.Rows L2 RZ
def stepN (n k : Nat) : Nat := if 0 < n then (n - 1) / k + 1 else 0
def stepL {α : Type} (xs : List α) (k : Nat) : List α := (List.range (stepN xs.length k)).filterMap fun j => xs[j * k]?
theorem stepN_lt {n k j : Nat} (hk : 0 < k) (h : j < stepN n k) : j * k < n := by
  unfold stepN at h
  split at h
  · have h1 : j ≤ (n - 1) / k := by omega
    have h2 := Nat.mul_le_mul_right k h1
    have h3 := Nat.div_mul_le_self (n - 1) k
    omega
  · omega
theorem RpA.pick {K : PySem.W.Frag} {R : Hp} {ds : List PyData} {vs : List V} (h : RpA K R vs ds) : ∀ js : List Nat, (∀ j ∈ js, j < ds.length) → RpA K R (js.filterMap fun j => vs[j]?) (js.filterMap fun j => ds[j]?)
  | [], _ => .nil
  | j :: js, hj => by
    have h1 := hj j List.mem_cons_self
    obtain ⟨v, hv, r⟩ := h.get (List.getElem?_eq_getElem h1)
    rw [List.filterMap_cons, List.filterMap_cons, hv, List.getElem?_eq_getElem h1]
    exact .cons r (RpA.pick h js fun x hx => hj x (List.mem_cons_of_mem _ hx))
theorem RpA.step {K : PySem.W.Frag} {R : Hp} {ds : List PyData} {vs : List V} (h : RpA K R vs ds) {k : Nat} (hk : 0 < k) : RpA K R (stepL vs k) (stepL ds k) := by
  have := RpA.pick h ((List.range (stepN ds.length k)).map fun j => j * k) fun j hj => by
    obtain ⟨i, hi, rfl⟩ := List.mem_map.mp hj
    exact stepN_lt hk (List.mem_range.mp hi)
  rw [List.filterMap_map, List.filterMap_map] at this
  unfold stepL
  rw [h.length]
  exact this
section
variable {prog : Program} {w : World} {A : Around} {E : Value → Shared → Prop} {s : Shared}
theorem sliceApplied_step {sl : Addr} {u : Tok} {n k : Nat} {Q : Int × Int × Nat → Shared → Prop} (hk : 0 < k) (hs : s.heap.IsSliceOf sl .none .none (.int (k : Int) u)) (h : Q (0, (k : Int), stepN n k) s) :
    wpAny (model prog w) A (Builtin.Slice.sliceApplied (.ref sl) (pure (n : Int))) Q E s := by
  obtain ⟨os, hos, hcs, hds⟩ := id hs
  unfold Builtin.Slice.sliceApplied Builtin.Slice.sliceFields
  refine wpAny_bind (wpAny_bind (wpAny_field hos hds (x := .none) rfl (wpAny_bind (wpAny_field hos hds (x := .none) rfl (wpAny_bind (wpAny_field hos hds (x := .int (k : Int) u) rfl (wpAny_pure ?_)))))))
  refine wpAny_bind (slicePart_int ?_)
  show wpAny _ _ (if ((k : Int) == 0) = true then _ else _) _ _ s
  rw [if_neg (by rw [beq_iff_eq]; omega)]
  refine wpAny_bind (slicePart_none (wpAny_bind (slicePart_none (wpAny_bind (wpAny_pure ?_)))))
  have e0 : Builtin.Slice.sliceAdjust none none (k : Int) (n : Int) = (0, (n : Int)) := by
    unfold Builtin.Slice.sliceAdjust
    have : ¬ ((k : Int) < 0) := by omega
    simp [this]
  show wpAny _ _ (match Builtin.Slice.sliceAdjust none none (k : Int) (n : Int) with | (lo, hi) => pure (lo, (k : Int), Builtin.Slice.slicePlaces lo hi (k : Int))) _ _ s
  rw [e0]
  show wpAny _ _ (pure ((0 : Int), (k : Int), Builtin.Slice.slicePlaces 0 (n : Int) (k : Int))) _ _ s
  have e : Builtin.Slice.slicePlaces 0 (n : Int) (k : Int) = stepN n k := by
    unfold Builtin.Slice.slicePlaces stepN
    rw [if_pos (by omega)]
    by_cases g : 0 < n
    · rw [if_pos (by omega), if_pos g]
      have e1 : (n : Int) - 0 - 1 = ((n - 1 : Nat) : Int) := by omega
      rw [e1, ← Int.natCast_ediv]
      generalize (n - 1) / k = m
      omega
    · rw [if_neg (by omega), if_neg g]; rfl
  rw [e]
  exact wpAny_pure h
theorem getItem_tuple_step {t sl : Addr} {items : Array Value} {u : Tok} {k : Nat} {Q : Value → Shared → Prop} (hk : 2 ≤ k) (ht : IsTup s.heap t items) (hs : s.heap.IsSliceOf sl .none .none (.int (k : Int) u))
    (h : Q (.ref s.heap.objs.size) { s with heap := s.heap.push { cls := .type "tuple", data := .seq (stepL items.toList k).toArray } }) (hsz : (stepL items.toList k).length ≤ sizeLine) : wpAny (model prog w) A (getItem (.ref t) (.ref sl)) Q E s := by
  have htake : sizeOk (.seq (stepL items.toList k).toArray) := by
    show (stepL items.toList k).toArray.size ≤ sizeLine
    rw [List.size_toArray]
    exact hsz
  obtain ⟨os, hos, hcs, hds⟩ := id hs
  have hTs : s.TypeIs (.ref sl) "slice" := ⟨os, hos, hcs⟩
  unfold getItem
  try with_reducible refine wpAny_holding ?_
  first | refine wpAny_bind (wpAny_pure ?_) | skip
  refine wpAny_bind (wpAny_sequenceKey ht.typeIs (by decide) ?_)
  refine wpAny_bind (wpAny_callSpecial?_slot (name := Str.ofString "__getitem__") ht.typeIs PyProof.Rows.slot_tuple_getitem
    (wpAny_call_entry PyProof.Rows.slot_tuple_getitem ht.typeIs entry_tuple_getitem ?_ (args_tuple_getitem _ _)))
  show wpAny _ _ (Builtin.Tuple.tupleItemsOf (.ref t) >>= _) _ _ s
  refine wpAny_bind (tupleItemsOf_ ht ?_)
  refine wpAny_bind (wpAny_typeOf hTs ?_)
  rw [if_pos (by decide)]
  refine wpAny_bind (sliceApplied_step (by omega) hs ?_)
  have hno : ¬ (((0 : Int) == 0 && (k : Int) == 1 && stepN items.size k == items.size) = true) := by
    intro q
    rw [Bool.and_eq_true, Bool.and_eq_true] at q
    have := q.1.2
    rw [beq_iff_eq] at this
    omega
  show wpAny _ _ (if ((0 : Int) == 0 && (k : Int) == 1 && stepN items.size k == items.size) = true then _ else _) _ _ s
  have hpick : ((List.range (stepN items.size k)).filterMap fun (j : Nat) => items[((0 : Int) + (j : Int) * (k : Int)).toNat]?).toArray = (stepL items.toList k).toArray := by
    congr 1
    unfold stepL
    rw [Array.length_toList]
    refine congrArg (fun f => List.filterMap f (List.range (stepN items.size k))) (funext fun j => ?_)
    rw [show ((0 : Int) + (j : Int) * (k : Int)).toNat = j * k by rw [Int.zero_add, ← Int.natCast_mul]; rfl, Array.getElem?_toList]
  rw [if_neg hno, hpick]
  first
    | exact wpAny_bind (m := Builtin.Tuple.tupleExact _) (wpAny_newObj_type (wpAny_pure ⟨_, rfl, wpAny_pure h⟩) htake)
    | exact wpAny_bind (m := Builtin.Tuple.tupleExact _) (wpAny_newObj_type (wpAny_bind (wpAny_pure (wpAny_pure ⟨_, rfl, wpAny_pure h⟩))) htake)
    | exact wpAny_bind (wpAny_bind (m := Builtin.Tuple.tupleExact _) (wpAny_newObj_type (wpAny_pure (wpAny_pure ⟨_, rfl, wpAny_pure h⟩)) htake))
    | exact wpAny_bind (wpAny_bind (m := Builtin.Tuple.tupleExact _) (wpAny_newObj_type (wpAny_pure ⟨_, rfl, wpAny_pure h⟩) htake))
end
theorem vals_pick {vs : List V} {us : List Value} (r : Vals vs us) : ∀ js : List Nat, (∀ j ∈ js, j < vs.length) → Vals (js.filterMap fun j => vs[j]?) (js.filterMap fun j => us[j]?)
  | [], _ => .nil
  | j :: js, hj => by
    have h1 := hj j List.mem_cons_self
    obtain ⟨u, hu, q⟩ := r.get (List.getElem?_eq_getElem h1)
    rw [List.filterMap_cons, List.filterMap_cons, hu, List.getElem?_eq_getElem h1]
    exact .cons q (vals_pick r js fun x hx => hj x (List.mem_cons_of_mem _ hx))
theorem vals_step {vs : List V} {us : List Value} (r : Vals vs us) {k : Nat} (hk : 0 < k) : Vals (stepL vs k) (stepL us k) := by
  have := vals_pick r ((List.range (stepN vs.length k)).map fun j => j * k) fun j hj => by
    obtain ⟨i, hi, rfl⟩ := List.mem_map.mp hj
    exact stepN_lt hk (List.mem_range.mp hi)
  rw [List.filterMap_map, List.filterMap_map] at this
  unfold stepL
  rw [← r.length]
  exact this
theorem stepL_len {α : Type} (xs : List α) {k : Nat} : (stepL xs k).length ≤ xs.length := by
  unfold stepL
  refine Nat.le_trans (List.length_filterMap_le _ _) ?_
  rw [List.length_range]
  unfold stepN
  split
  · have := Nat.div_le_self (xs.length - 1) k; omega
  · omega
section
variable {X : Cx} {T : Option Addr} {S : Sta} {e e3 a b : Expr} {pos p p1 p2 p3 apos : Pos} {x : Str} {rest : List Stmt} {κd : KD}
theorem pe_stepT {te t3 : TE} (he : PE X e te) (h3 : PE X e3 t3) : PE X (.Subscript e (.Slice none none (some e3) p3) pos)
    (fun σ H Q => te σ H fun x H1 => tPart t3 σ H1 fun o H2 => ∃ a xs k, o = some ((k : Nat) : Int) ∧ x = .ref a ∧ 2 ≤ k ∧ SqT X.K H2 a xs ∧ ∀ p, H2 p = none → Q (.ref p) (upd H2 p (.tup (stepL xs k)))) := by
  refine ⟨fun pins s σ H Q I h => ?_⟩
  refine Subscript_ (thn (he.run pins s σ H _ I h) fun v s1 ⟨x, H1, I1, r1, q1⟩ => ?_)
  have hst : PO X (some e3) (tPart t3) := po_some h3
  refine wpAny_Slice (thn (po_none.run pins s1 σ H1 (fun o H2 => o = none ∧ H2 = H1) I1 ⟨rfl, rfl⟩) fun vl s2 ⟨l, H2, I2, pl, el, e2⟩ => ?_)
  subst el e2
  refine thn (po_none.run pins s2 σ H2 (fun o H3 => o = none ∧ H3 = H2) I2 ⟨rfl, rfl⟩) fun vu s3 ⟨u, H3, I3, pu, eu, e3⟩ => ?_
  subst eu e3
  refine thn (hst.run pins s3 σ H3 (fun o H4 => ∃ a xs k, o = some ((k : Nat) : Int) ∧ x = .ref a ∧ 2 ≤ k ∧ SqT X.K H4 a xs ∧ ∀ p, H4 p = none → Q (.ref p) (upd H4 p (.tup (stepL xs k)))) I3 q1) fun vs s4 ⟨o, H4, I4, ps, q4⟩ => ?_
  obtain ⟨a, xs, k, rfl, rfl, hk, hx, q⟩ := q4
  cases r1
  cases pl
  cases pu
  cases ps with
  | int i t =>
  have I5 : Inv X pins σ H4 { s4 with heap := s4.heap.push { cls := .type "slice", data := .fields #[.none, .none, .int (k : Int) t] } } := I4.kept (t' := s4.toks) fun b ob q => Heap.get?_push_of_some _ q
  obtain ⟨its, r, ht, hz⟩ := I5.tuple hx
  have hlen := r.length
  show wpAny (model X.prog X.w) X.A (subscriptTail e (.Slice none none (some e3) p3) (.ref a) (.ref s4.heap.objs.size)) (EP X pins σ Q) X.xe { s4 with heap := s4.heap.push { cls := .type "slice", data := .fields #[.none, .none, .int (k : Int) t] } }
  refine tail_any (ops := [.ref a, .ref s4.heap.objs.size]) ht.typeIs (PyProof.Rows.slot_tuple_getitem.lookup) ?_ (by with_unfolding_all rfl)
  have hsl : (stepL its k).length ≤ sizeLine := by have := stepL_len its (k := k); omega
  refine getItem_tuple_step hk ht (Heap.IsSliceOf.new _ _ _ _) ?_ hsl
  refine ⟨.ref _, _, I5.laid (t' := s4.toks) (o := .tup (stepL xs k)) (fun b ob q => Heap.get?_push_of_some _ q) (Nat.le_refl _) ?_, rfl, q _ (I5.hok.fresh (Nat.le_refl _))⟩
  exact ⟨by have := stepL_len xs (k := k); omega, _, vals_step r (by omega), IsTup.new _ _⟩
theorem evp_stepT {ds : List PyData} {k : Nat} (h : EvP X T e S (.tuple ds)) (h3 : EvP X T e3 S (nD k)) (hk : 2 ≤ k) : EvP X T (.Subscript e (.Slice none none (some e3) p3) pos) S (.tuple (stepL ds k)) := fun R σ H I Q q =>
  wpE_of (pe_stepT pe_wp pe_wp) (h R σ H I _ fun R1 v H1 d b ⟨e1, e2⟩ I1 n1 r1 => by
    subst e1 e2
    refine h3 R1 σ H1 I1 _ fun R2 w H2 d2 b2 ⟨e1, e2⟩ I2 n2 r2 => ?_
    subst e1 e2
    cases r2
    refine ⟨(k : Int), rfl, ?_⟩
    cases r1.le n2.lr with
    | @tup a xs _ hq hr =>
      exact ⟨a, xs, k, rfl, rfl, hk, le_t I2.le hq, fun p hp => q _ _ _ _ _ ⟨rfl, rfl⟩ (I2.laid2 hp) ((n1.trans n2).trans (Nx.laid2 I2.le hp)) (.tup (SqT.of upd_same) ((hr.step (by omega)).le (Le.upd (I2.le.fre hp))))⟩)
/-- list(range(a, b)) -/
theorem rgV_natL (m n : Nat) : rgV (m : Int) (n : Int) = ((List.range' m (n - m)).map fun (i : Nat) => (i : Int)).map V.int := by
  unfold rgV
  rw [show ((n : Int) - (m : Int)).toNat = n - m by omega, List.range'_eq_map_range, List.map_map, List.map_map]
  exact List.map_congr_left fun i _ => by show V.int _ = V.int _; congr 1
theorem evnp_lrg {m n : Nat} (h : EvP X T a S (nD m)) (h' : EvP X T b S (nD n)) (hm : X.mg "list" = none) (hm2 : X.mg "range" = none) (hz : m ≤ 16777216 ∧ n ≤ 16777216 := by omega) (hc : X.calm = true := by rfl) (hg : Gl X "list" := by rfl) (hg2 : Gl X "range" := by rfl)
    (na : starEach [a, b] X.env = (false, eval a X.env) :: starEach [b] X.env := by rfl) (nb : starEach [b] X.env = (false, eval b X.env) :: starEach [] X.env := by rfl) (hp : (backTo p2 (starEach [b] X.env)).any (·.1) = false := by rfl)
    (nc : starEach [.Call (.Name "range" p1) [a, b] [] p2] X.env = (false, eval (.Call (.Name "range" p1) [a, b] [] p2) X.env) :: starEach [] X.env := by rfl) :
    EvNP X T (.Call (.Name "list" p) [.Call (.Name "range" p1) [a, b] [] p2] [] pos) S ((List.range' m (n - m)).map nD) := fun R σ H I Q q =>
  wpE_of (pe_listRg hc hg hm (prg_2 hg2 hm2 pe_wp pe_wp na nb hp) nc) (h R σ H I _ fun R1 v H1 d b1 ⟨e1, e2⟩ I1 n1 r1 => by
    subst e1 e2
    refine h' R1 σ H1 I1 _ fun R2 w H2 d2 b2 ⟨e1, e2⟩ I2 n2 r2 => ?_
    subst e1 e2
    cases r1
    cases r2
    refine ⟨(m : Int), (n : Int), rfl, rfl, RgOk.of_le (by omega) (by omega) (by omega) (by omega), fun pp hp => ?_⟩
    have n12 := n1.trans n2
    refine q R2 pp _ _ _ _ ⟨rfl, rfl⟩ (I2.laid hp) (n12.trans (Nx.laid hp)) (fresh_of n12 (I2.notT hp) hp) (I2.notT hp) (I2.le.fre hp) upd_same ?_
    rw [rgV_natL, nD_ints]
    exact rpa_ints _)
/-- x.extend(e), e a new list -/
theorem run_ext (i : Nat) {ds es : List PyData} (hi : S.sl[i]? = some (some (.mu ds))) (h : EvNP X T e S.drp es) (hz : ds.length + es.length ≤ sizeLine) (hq : Run X T rest ⟨S.b, S.sl.set i (some (.mu (ds ++ es)))⟩ κd)
    (hN : X.N[i]? = some x := by rfl) (hv : Vis X.env.scope x := by first | exact Or.inl rfl | exact Or.inr (Or.inl rfl) | exact Or.inr (Or.inr rfl)) (hd : (x == ("__debug__" : Str)) = false := by decide) (hcd : (x == ("__classdict__" : Str)) = false := by decide)
    (hs : swapsWith (.Call (.Attribute (.Name x p1) "extend" p2) [e] [] p3) none pos.line X.env = pure false := by rfl) (hse : starEach [e] X.env = (false, eval e X.env) :: starEach [] X.env := by rfl)
    (hbase : attributeBase (.Name x p1) "extend" X.env (eval (.Name x p1) X.env) = eval (.Name x p1) X.env := by rfl)
    (hfew : ((backTo p3 (starEach [e] X.env)).all (fun x => !x.1) && (backToKw p3 (keywordEach [] X.env)).all (fun x => x.1.isSome) && decide (([e] : List Expr).length + ([] : List Keyword).length + (if ([] : List Keyword).isEmpty then 0 else 1) < 30)) = true := by rfl)
    (hline : (p2.endLine == p3.line) = true := by rfl) (hst : (backTo p3 (starEach ([] : List Expr) X.env)).any (·.1) = false := by rfl) :
    Run X T (.Expr (.Call (.Attribute (.Name x p1) "extend" p2) [e] [] p3) pos :: rest) S κd := fun B R σ H I D L => by
  obtain ⟨v, f1, a, ys, g1, g2, g3, g4, g5, g6⟩ := I.sl i _ hi
  subst g1
  refine seq_of (ps_expr (pe_bm PySem.F.plainAttrs_list PySem.F.slot_list_extend PySem.F.type_list_extend mt_extend (pe_var hN hv hd hcd) (pa_cons pe_wp pa_nil hse) hbase hfew hline hse hst) hs) ?_
  refine ⟨.ref a, f1, .inl ⟨rfl, _, SqL.of g2⟩, h R σ H I.drp _ fun R1 pp xs H1 ds' b1 k1 I1 n1 h1 h2 h3 h4 h5 => ?_⟩
  obtain ⟨e1, e2⟩ := k1
  subst e1 e2
  have I' := I.after I1.le n1 I1.tw
  obtain ⟨v2, f2, a2, ys2, q1, q2, q3, q4, q5, q6⟩ := I'.sl i _ hi
  subst q1
  rw [f1] at f2; cases f2
  exact ⟨a, pp, ys2, xs, rfl, rfl, q2, h4, by rw [q3.length, h5.length]; exact hz, hq B R1 σ _ (I'.putM hi f1 (q3.append h5)) D L⟩
/-- any(a list of noughts) -/
theorem truth_zero {prog : Program} {w : World} {A : Around} {its : List Value} (h : ∀ v ∈ its, ∃ t, v = Value.int 0 t) : TruthOf prog w A (fun i v => its.toArray[i]? = some v) (fun _ => false) := fun i v s Q E hv hq => by
  have hv' : its[i]? = some v := by simpa using hv
  obtain ⟨t, rfl⟩ := h v (List.mem_of_getElem? hv')
  exact truthy_int hq
theorem cr_any0 (hc : X.calm = true) : CallR X (.builtin "any") (fun vs H Q => ∃ (a : Addr) (n : Nat), vs = [V.ref a] ∧ SqL X.K H a (List.replicate n (V.int 0)) ∧ Q (.bl false) H) := by
  intro pins s σ H vs us Q I r h
  obtain ⟨a, n, rfl, hs, q⟩ := h
  obtain ⟨its, rv, hl, _⟩ := I.list hs
  rw [Vals.ref1 r]
  have hz : ∀ v ∈ its, ∃ t, v = Value.int 0 t := fun v hv => by
    obtain ⟨j, hj, e⟩ := List.mem_iff_getElem.mp hv
    have hj2 : j < n := by have := rv.length; rw [List.length_replicate] at this; omega
    obtain ⟨u, hu, ru⟩ := rv.get (i := j) (x := V.int 0) (by rw [List.getElem?_replicate, if_pos hj2])
    rw [List.getElem?_eq_getElem hj, e] at hu
    cases hu
    exact ru
  refine call_any_walk (iter_any hl.isList fun s₂ e2 st hne => ?_)
  subst e2
  refine ⟨_, _, _, _, _, _, _, rfl, Walks.list (A := X.A.in1) (I.ok.hd hc) _ a hne its.toArray, st, truth_zero hz, fun h' tk hk => ?_⟩
  refine ⟨.bl false, H, I.kept fun b o eo => hk b o (fun hmem => ?_) (Heap.get?_push_of_some _ eo), ?_, q⟩
  · rcases List.mem_cons.mp hmem with e1 | hmem
    · exact absurd (e1 ▸ Heap.lt_size eo) (Nat.lt_irrefl _)
    · cases hmem
  · show Value.bool _ = Value.bool _
    simp
theorem cd_any0 {n : Nat} (hc : X.calm = true := by rfl) : CallD X T (.builtin "any") [.list ((List.replicate n 0).map nD)] (.bool false) := fun S R σ H vs Q I r q => by
  obtain ⟨v, rfl, r1⟩ := r.one
  rw [nD_ints] at r1
  cases r1 with
  | @lst a xs _ h r =>
    rw [r.ints] at h
    refine ⟨_, cr_any0 hc, a, n, rfl, ?_, q R _ H I Nx.refl (.bl _)⟩
    have := SqL.of (K := X.K) (I.le _ _ h)
    rw [List.map_replicate, List.map_replicate] at this
    exact this
/-- x, y, z = plain data, a new list to be changed, plain data: by a tuple -/
theorem run_take3N {c tg : Expr} {pt : Pos} {kt : Nat} (i j l : Nat) {d1 d3 : PyData} {ds : List PyData} (ha : EvP X T a S.drp d1) (hb : EvNP X T b S.drp ds) (h3 : EvP X T c S.drp d3)
    (q : Run X T rest ⟨S.b, ((S.sl.set i (some (.dat d1))).set j (some (.mu ds))).set l (some (.dat d3))⟩ κd) (hg : PG X tg (gTup X.K 3 (gCons (gName i) (gCons (gName j) (gCons (gName l) gNil)))))
    (hs : swapsWithSole [tg] (.Tuple [a, b, c] kt pt) pos.line X.env = pure false := by rfl) (hw : swappedStores [tg] (.Tuple [a, b, c] kt pt) X.env = pure none := by rfl)
    (h1 : (assignEach [tg] X.env).map (·.2) = [assign tg X.env] := by rfl) (hs1 : starEach [a, b, c] X.env = (false, eval a X.env) :: starEach [b, c] X.env := by rfl) (hs2 : starEach [b, c] X.env = (false, eval b X.env) :: starEach [c] X.env := by rfl)
    (hs3 : starEach [c] X.env = (false, eval c X.env) :: starEach [] X.env := by rfl) : Run X T (.Assign [tg] (.Tuple [a, b, c] kt pt) pos :: rest) S κd := fun B R σ H I D L => by
  refine seq_of (ps_asg (pe_tup (pa_cons pe_wp (pa_cons pe_wp (pa_cons pe_wp pa_nil hs3) hs2) hs1)) hg hs hw h1) ?_
  refine ha R σ H I.drp _ fun R1 v1 H1 e1 b1 k1 I1 n1 r1 => ?_
  obtain ⟨z1, z2⟩ := k1
  subst z1 z2
  refine hb R1 σ H1 I1 _ fun R2 p2 xs H2 e2 b2 k2 I2 n2 w1 w2 w3 w4 w5 => ?_
  obtain ⟨z1, z2⟩ := k2
  subst z1 z2
  refine h3 R2 σ H2 I2 _ fun R3 v3 H3 e3 b3 k3 I3 n3 r3 => ?_
  obtain ⟨z1, z2⟩ := k3
  subst z1 z2
  refine ⟨by show 3 ≤ sizeLine; rw [sizeLine_eq]; omega, fun t ht => ?_⟩
  have n23 := n1.trans n2
  have n33 := n23.trans n3
  have hp2 : H p2 = none := n1.none_of w2 w1
  have I4 := I.after (I3.laid (o := .tup [v1, .ref p2, v3]) ht).le (n33.trans (Nx.laid ht)) (I3.laid (o := .tup [v1, .ref p2, v3]) ht).tw
  have hl3 : H3 p2 = some (.lst xs) := n3.lx p2 _ w2 w4
  have hne : p2 ≠ t := fun z => by rw [← z, hl3] at ht; cases ht
  have hl4 : (upd H3 t (.tup [v1, .ref p2, v3])) p2 = some (.lst xs) := by rw [upd_ne hne]; exact hl3
  have hR3 : R3 p2 = none := n3.av p2 w2 (by rw [w4]; simp) w3
  refine ⟨t, _, rfl, SqT.of upd_same, rfl, _, _, rfl, _, _, rfl, _, _, rfl, rfl, ?_⟩
  have I5 := I4.setOne (i := i) (r1.le (n2.lr.trans n3.lr))
  have I6 := I5.setM (i := j) (w5.le n3.lr) hl4 hR3 (I.n.none_of w2 hp2) w2 fun l' es _ hlj hσ => by
    have hl' : l' ≠ i := fun e => by
      subst e
      by_cases hlt : l' < S.sl.length
      · rw [List.getElem?_set_self hlt] at hlj; cases hlj
      · rw [List.getElem?_eq_none (by rw [List.length_set]; omega)] at hlj; cases hlj
    rw [List.getElem?_set_ne (Ne.symm hl')] at hσ hlj
    obtain ⟨xs', _, w, _⟩ := I.mu ⟨l', es, hlj, hσ⟩
    rw [hp2] at w; cases w
  have I7 := I6.setOne (i := l) r3
  exact q B R3 _ _ I7 D L
end
end PL
set_option maxHeartbeats 4000000
namespace PL
open PySem PySem.Spec PyProof.Rows L2 RZ
/-! ### stretches: they lie apart, and hold the divided places -/
def flR (l : List (Nat × Nat)) : List Nat := l.flatMap fun q => List.range' q.1 (q.2 - q.1)
structure SepL (l : List (Nat × Nat)) (i : Nat) : Prop where
  pw : l.Pairwise fun q r => q.2 < r.1
  lt : ∀ q ∈ l, q.1 < q.2
  le : ∀ q ∈ l, q.2 ≤ i
theorem split_last {α : Type} {l : List α} {q : α} (h : l.getLast? = some q) : l = l.dropLast ++ [q] := by
  cases l with
  | nil => cases h
  | cons a r =>
    have e := List.dropLast_concat_getLast (l := a :: r) (by simp)
    rw [List.getLast?_eq_some_getLast (by simp)] at h
    rw [← Option.some.inj h, e]
theorem set_last {α : Type} {l : List α} {q r : α} (h : l.getLast? = some q) : l.set (l.length - 1) r = l.dropLast ++ [r] := by
  have e := split_last h
  conv => lhs; rw [e]
  rw [List.length_append]
  show (l.dropLast ++ [q]).set (l.dropLast.length + 1 - 1) r = _
  rw [Nat.add_sub_cancel, List.set_append_right _ _ (Nat.le_refl _), Nat.sub_self]; rfl
theorem flR_append (a b : List (Nat × Nat)) : flR (a ++ b) = flR a ++ flR b := List.flatMap_append
theorem nsU_sep {l : List (Nat × Nat)} {i : Nat} (h : SepL l i) : SepL (nsU l i) (i + 1) ∧ flR (nsU l i) = flR l ++ [i] := by
  by_cases g : ∃ q, l.getLast? = some q ∧ q.2 = i
  · obtain ⟨q, hl, hq⟩ := g
    rw [nsU_set hl hq, set_last hl]
    have e := split_last hl
    have h1 : l.dropLast.Pairwise fun q r => q.2 < r.1 := h.pw.sublist (List.dropLast_sublist l)
    have h2 : ∀ r ∈ l.dropLast, r.2 < q.1 := by
      have := h.pw
      rw [e, List.pairwise_append] at this
      exact fun r hr => this.2.2 r hr q (by simp)
    have h3 : ∀ r ∈ l.dropLast, r ∈ l := fun r hr => List.dropLast_subset l hr
    have hqm : q ∈ l := List.mem_of_getLast? hl
    have hq1 := h.lt q hqm
    refine ⟨⟨?_, fun r hr => ?_, fun r hr => ?_⟩, ?_⟩
    · rw [List.pairwise_append]
      exact ⟨h1, by simp, fun r hr z hz => by simp at hz; subst hz; exact h2 r hr⟩
    · rcases List.mem_append.mp hr with hr | hr
      · exact h.lt r (h3 r hr)
      · simp at hr; subst hr; show q.1 < i + 1; omega
    · rcases List.mem_append.mp hr with hr | hr
      · have := h.le r (h3 r hr); omega
      · simp at hr; subst hr; exact Nat.le_refl _
    · conv => rhs; rw [e]
      rw [flR_append, flR_append, List.append_assoc]
      congr 1
      show List.range' q.1 (i + 1 - q.1) ++ [] = List.range' q.1 (q.2 - q.1) ++ [] ++ [i]
      rw [hq, List.append_nil, List.append_nil, show i + 1 - q.1 = (i - q.1) + 1 by omega, List.range'_concat]
      congr 2
      omega
  · rw [nsU_app g]
    refine ⟨⟨?_, fun r hr => ?_, fun r hr => ?_⟩, ?_⟩
    · rw [List.pairwise_append]
      refine ⟨h.pw, by simp, fun r hr z hz => ?_⟩
      simp at hz; subst hz
      show r.2 < i
      cases hl : l.getLast? with
      | none =>
        cases l with
        | nil => cases hr
        | cons a r => rw [List.getLast?_cons] at hl; cases hl
      | some q =>
        have hqi : q.2 ≠ i := fun z => g ⟨q, hl, z⟩
        have hqle := h.le q (List.mem_of_getLast? hl)
        have e := split_last hl
        rw [e] at hr
        rcases List.mem_append.mp hr with hr | hr
        · have := h.pw
          rw [e, List.pairwise_append] at this
          have h5 := this.2.2 r hr q (by simp)
          have h6 := h.lt q (List.mem_of_getLast? hl)
          omega
        · simp at hr; subst hr; omega
    · rcases List.mem_append.mp hr with hr | hr
      · exact h.lt r hr
      · simp at hr; subst hr; show i < i + 1; omega
    · rcases List.mem_append.mp hr with hr | hr
      · have := h.le r hr; omega
      · simp at hr; subst hr; exact Nat.le_refl _
    · rw [flR_append]
      congr 1
      show List.range' i (i + 1 - i) ++ [] = [i]
      rw [show i + 1 - i = 1 by omega]; rfl
theorem nsS_sep (p n : Nat) : ∀ i, SepL (nsS p n i) i ∧ flR (nsS p n i) = (List.range i).filter fun k => decide (C n k % p = 0)
  | 0 => ⟨⟨List.Pairwise.nil, fun q h => (nomatch h), fun q h => (nomatch h)⟩, rfl⟩
  | i + 1 => by
    obtain ⟨h1, h2⟩ := nsS_sep p n i
    rw [List.range_succ, List.filter_append]
    by_cases g : C n i % p = 0
    · rw [nsS_yes g]
      obtain ⟨k1, k2⟩ := nsU_sep h1
      refine ⟨k1, ?_⟩
      rw [k2, h2, List.filter_cons, if_pos (decide_eq_true g)]; rfl
    · rw [nsS_no g]
      refine ⟨⟨h1.pw, h1.lt, fun q hq => by have := h1.le q hq; omega⟩, ?_⟩
      rw [h2, List.filter_cons, if_neg (by simpa using g), List.filter_nil, List.append_nil]
theorem flR_take {l : List (Nat × Nat)} {i : Nat} {q : Nat × Nat} (h : l[i]? = some q) : flR (l.take (i + 1)) = flR (l.take i) ++ List.range' q.1 (q.2 - q.1) := by
  rw [List.take_add_one, h, flR_append]
  congr 1
  show List.range' q.1 (q.2 - q.1) ++ [] = _
  rw [List.append_nil]
theorem zero_list {p n : Nat} (hp : Pr p) : ((List.range (n + 1)).filter fun k => decide (C n k % p = 0)) = [] ↔ cnt p n = n + 1 := by
  have h1 := NR_cnt hp n
  rw [NR_filter] at h1
  rw [← List.length_eq_zero_iff]
  omega
theorem fm_congr {α β : Type} {f g : α → Option β} {l : List α} (h : ∀ x ∈ l, f x = g x) : l.filterMap f = l.filterMap g := by
  induction l with
  | nil => rfl
  | cons a r ih =>
    rw [List.filterMap_cons, List.filterMap_cons, h a List.mem_cons_self, ih fun x hx => h x (List.mem_cons_of_mem _ hx)]
/-! ### rows -/
theorem rwL_rev {p n : Nat} : (rwL p n).reverse = rwL p n := by
  apply List.ext_getElem?
  intro i
  by_cases g : i ≤ n
  · rw [List.getElem?_reverse (by rw [rwL_len]; omega), rwL_len, rwL_get (by omega), rwL_get g, show n + 1 - 1 - i = n - i by omega, C_symm g]
  · rw [List.getElem?_eq_none (by rw [List.length_reverse, rwL_len]; omega), List.getElem?_eq_none (by rw [rwL_len]; omega)]
theorem C_off {p n j : Nat} (hp : Pr p) (h : j % p ≠ 0) : C (n * p) j % p = 0 := by
  have h2 := Pr_two hp
  rw [lucas1 hp, Nat.mul_mod_left]
  obtain ⟨m, hm⟩ : ∃ m, j % p = m + 1 := ⟨j % p - 1, by omega⟩
  rw [hm, C_0s, Nat.mul_zero, Nat.zero_mod]
theorem step_map (f : Nat → Nat) (n k : Nat) (hk : 0 < k) : stepL ((List.range (n * k + 1)).map f) k = (List.range (n + 1)).map fun j => f (j * k) := by
  unfold stepL
  rw [List.length_map, List.length_range]
  have e : stepN (n * k + 1) k = n + 1 := by
    unfold stepN
    rw [if_pos (by omega), Nat.add_sub_cancel, Nat.mul_div_cancel _ hk]
  rw [e]
  conv => rhs; rw [← List.filterMap_eq_map]
  refine fm_congr fun j hj => ?_
  have hj := List.mem_range.mp hj
  have h1 : j * k ≤ n * k := Nat.mul_le_mul_right k (by omega)
  rw [List.getElem?_map, List.getElem?_range (by omega)]; rfl
theorem rwL_step {p n : Nat} (hp : Pr p) : stepL (rwL p (n * p)) p = rwL p n := by
  have h2 := Pr_two hp
  unfold rwL
  rw [step_map _ n p (by omega)]
  refine List.map_congr_left fun j _ => ?_
  have := lucas_mul hp (n := n) (k := j) (a := 0) (b := 0) (by omega) (by omega)
  rw [Nat.add_zero, Nat.add_zero, C_self, Nat.mul_one] at this
  exact this
theorem step_nD (ns : List Nat) (k : Nat) : stepL (ns.map nD) k = (stepL ns k).map nD := by
  unfold stepL
  rw [List.length_map, List.map_filterMap]
  refine fm_congr fun j _ => ?_
  rw [List.getElem?_map]
end PL
set_option maxHeartbeats 4000000
namespace PL
open PySem PySem.Spec PyProof.Rows L2 RZ
section
variable {X : Cx} {T : Option Addr} {S : Sta} {k : KD} {c : Expr} {rest body oth : List Stmt} {pos : Pos}
/-- an if that draws, whose two ways meet again -/
theorem run_ifkM (Mid : Sta → Prop) (h : EvTk X T c S.drp fun p b => (p = true → Run X T body ⟨b, S.sl⟩ { k with nx := Mid }) ∧ (p = false → Run X T oth ⟨b, S.sl⟩ { k with nx := Mid })) (h3 : ∀ S', Mid S' → Run X T rest S' k) : Run X T (.If c body oth pos :: rest) S k :=
  run_ifk fun R σ H I Q q => h R σ H I Q fun R1 H1 p b ⟨a1, a2⟩ I1 n1 => q R1 H1 p b ⟨fun z => (a1 z).imp h3 (fun _ _ z => z) (fun _ z => z) (fun _ z => z), fun z => (a2 z).imp h3 (fun _ _ z => z) (fun _ z => z) (fun _ z => z)⟩ I1 n1
end
theorem map_const0 {l : List Nat} {f : Nat → Nat} (h : ∀ x ∈ l, f x = 0) : l.map (fun x => nD (f x)) = (List.replicate l.length 0).map nD := by
  induction l with
  | nil => rfl
  | cons a r ih =>
    rw [List.map_cons, List.length_cons, List.replicate_succ, List.map_cons, h a List.mem_cons_self, ih fun x hx => h x (List.mem_cons_of_mem _ hx)]
end PL
set_option maxHeartbeats 4000000
/-! texts as lists of signs -/
namespace PL
open PySem PySem.Spec PyProof.Rows L2 RZ
abbrev tx (l : List Nat) : Str := ⟨l.toArray⟩
abbrev tD (l : List Nat) : PyData := .str (tx l)
theorem tx_inj {a b : List Nat} (h : tx a = tx b) : a = b := congrArg (fun x : Str => x.cps.toList) h
theorem tx_app (a b : List Nat) : tx a ++ tx b = tx (a ++ b) := TL.ext_tl (TL.tl_append _ _)
theorem tx_len (a : List Nat) : (tx a).length = a.length := TL.len_tl (tx a)
theorem tx_eq {a b : List Nat} : decide (tx a = tx b) = decide (a = b) := by
  by_cases h : a = b
  · subst h; simp
  · rw [decide_eq_false h, decide_eq_false fun q => h (tx_inj q)]
theorem tx_tl (x : Str) : tx x.cps.toList = x := TL.mk_tl x
section
variable {X : Cx} {T : Option Addr} {S : Sta} {e a o : Expr} {es : List Expr} {pos p2 p3 apos cpos : Pos} {d y : PyData}
theorem evp_m1 {id : String} {name : Str} {x : Str} {r : V → List V → Hp → VK → Prop} (slot : Slot "str" name id) (ty : typeOf (.builtin id) = pure (.type "method_descriptor")) (rule : MtR X id r) (ho : EvP X T o S (.str x)) (he : EvP X T e S y)
    (h : ∀ R σ H v (Q : VK), HE X.K T S R σ H → Rp X.K R v y → (∀ R' c H', HE X.K T S R' σ H' → Nx T R H R' H' → Rp X.K R' c d → Q c H') → r (.str x) [v] H Q)
    (hs : starEach [e] X.env = [(false, eval e X.env)] := by rfl) (hbase : attributeBase o name X.env (eval o X.env) = eval o X.env := by rfl) (hline : (apos.endLine == pos.line) = true := by rfl) : EvP X T (.Call (.Attribute o name apos) [e] [] pos) S d := fun R σ H I Q q =>
  wpE_of (pe_m1 slot ty rule pe_wp pe_wp hs hbase hline) (ho R σ H I _ fun R1 v H1 d1 b ⟨e1, e2⟩ I1 n1 r1 => by
    subst e1 e2
    cases r1
    refine ⟨⟨x, rfl⟩, he R1 σ H1 I1 _ fun R2 w H2 d2 b2 ⟨e1, e2⟩ I2 n2 r2 => ?_⟩
    subst e1 e2
    exact h R2 σ H2 w Q I2 r2 fun R3 c H3 I3 n3 r3 => q R3 c H3 _ _ ⟨rfl, rfl⟩ I3 ((n1.trans n2).trans n3) r3)
theorem evp_tx (l : List Nat) {x : Str} {j : Nat} (h : x = tx l := by rfl) : EvP X T (.Constant (.str x) j pos) S (tD l) := by subst h; exact evp_str
theorem opn_addS {i j : List Nat} (h : i.length + j.length ≤ sizeLine) : OpD X T (binaryOp .Add) (tD i) (tD j) (tD (i ++ j)) := by
  have := opd_addS (X := X) (T := T) (i := tx i) (j := tx j) (by rw [tx_len, tx_len]; exact h)
  rwa [tx_app] at this
theorem opn_eqS {i j : List Nat} : OpD X T (compareOp .Eq) (tD i) (tD j) (.bool (decide (i = j))) := by rw [← tx_eq]; exact opd_eqS
theorem opn_neS {i j : List Nat} : OpD X T (compareOp .NotEq) (tD i) (tD j) (.bool (!decide (i = j))) := by rw [← tx_eq]; exact opd_neS
theorem opn_inS {c : Nat} {l : List Nat} : OpD X T (compareOp .In) (tD [c]) (tD l) (.bool (decide (c ∈ l))) := fun S R σ H a b Q I ra rb q => by
  cases ra; cases rb
  exact ⟨_, op_in_sign, c, tx l, rfl, rfl, q R _ H I Nx.refl (.bl _)⟩
theorem opn_notInS {c : Nat} {l : List Nat} : OpD X T (compareOp .NotIn) (tD [c]) (tD l) (.bool (!decide (c ∈ l))) := fun S R σ H a b Q I ra rb q => by
  cases ra; cases rb
  exact ⟨_, op_notIn_sign, c, tx l, rfl, rfl, q R _ H I Nx.refl (.bl _)⟩
/-! join -/
theorem glued0 : ∀ (ys : List (List Nat)), Txt.join (tx []) (ys.map tx) = tx ys.flatten := by
  have h : ∀ (ys : List (List Nat)) (a : Array Nat), (ys.map tx).foldl (fun (acc : Array Nat) (p : Str) => acc ++ (tx []).cps ++ p.cps) a = a ++ ys.flatten.toArray := by
    intro ys
    induction ys with
    | nil => intro a; simp
    | cons y r ih => intro a; rw [List.map_cons, List.foldl_cons, ih]; simp
  intro ys
  cases ys with
  | nil => rfl
  | cons y r =>
    show Str.mk (((y :: r).map tx).drop 1 |>.foldl _ (tx y).cps) = _
    rw [List.map_cons, List.drop_succ_cons, List.drop_zero, h]
    simp
theorem tD_strs (ys : List (List Nat)) : ys.map tD = (ys.map tx).map PyData.str := by rw [List.map_map]; rfl
theorem len_flat (ys : List (List Nat)) : ((ys.map tx).map (·.length)).sum = ys.flatten.length := by
  rw [List.length_flatten, List.map_map]
  congr 1
theorem evp_joinL {ys : List (List Nat)} (ho : EvP X T o S (tD [])) (he : EvP X T e S (.list (ys.map tD))) (hz : ys.flatten.length ≤ 16777216)
    (hs : starEach [e] X.env = [(false, eval e X.env)] := by rfl) (hbase : attributeBase o "join" X.env (eval o X.env) = eval o X.env := by rfl) (hline : (apos.endLine == pos.line) = true := by rfl) : EvP X T (.Call (.Attribute o "join" apos) [e] [] pos) S (tD ys.flatten) :=
  evp_m1 F.slot_str_join F.type_str_join mt_join ho he (fun R σ H v Q I r q => by
    rw [tD_strs] at r
    cases r with
    | @lst a xs _ h r =>
      rw [r.strs] at h
      refine ⟨tx [], a, ys.map tx, rfl, rfl, .inl (SqL.of (I.le _ _ h)), ?_, ?_⟩
      · rw [len_flat, tx_len]
        simpa using hz
      · rw [glued0]
        exact q R _ H I Nx.refl (.str _)) hs hbase hline
theorem evp_joinT {ys : List (List Nat)} (ho : EvP X T o S (tD [])) (he : EvP X T e S (.tuple (ys.map tD))) (hz : ys.flatten.length ≤ 16777216)
    (hs : starEach [e] X.env = [(false, eval e X.env)] := by rfl) (hbase : attributeBase o "join" X.env (eval o X.env) = eval o X.env := by rfl) (hline : (apos.endLine == pos.line) = true := by rfl) : EvP X T (.Call (.Attribute o "join" apos) [e] [] pos) S (tD ys.flatten) :=
  evp_m1 F.slot_str_join F.type_str_join mt_join ho he (fun R σ H v Q I r q => by
    rw [tD_strs] at r
    cases r with
    | @tup a xs _ h r =>
      rw [r.strs] at h
      refine ⟨tx [], a, ys.map tx, rfl, rfl, .inr (le_t I.le h), ?_, ?_⟩
      · rw [len_flat, tx_len]
        simpa using hz
      · rw [glued0]
        exact q R _ H I Nx.refl (.str _)) hs hbase hline
/-! count of a sign -/
open PySem.Builtin.Str PySem.StrLaws in
theorem occ_count (x : Str) (c : Nat) : ∀ (n lo : Nat) (st : Array Nat × Nat), lo + n = x.length + 1 → st.2 ≤ lo → st.1.size ≤ lo →
    (forIn (List.range' lo n) st (occBody x ⟨#[c]⟩ x.length (x.length + 1))).run.fst.size = st.1.size + (x.cps.toList.drop lo).count c
  | 0, lo, st, e, _, _ => by
    have : x.cps.toList.drop lo = [] := List.drop_eq_nil_of_le (by have hl : x.length = x.cps.toList.length := TL.len_tl x; omega)
    rw [this]; rfl
  | n + 1, lo, st, e, h1, h2 => by
    rw [List.range'_succ, List.forIn_cons]
    have hl : x.length = x.cps.toList.length := TL.len_tl x
    by_cases c1 : x.cps.toList[lo]? = some c
    · have s1 := (subAt_one x c lo).mpr c1
      have hb : occBody x ⟨#[c]⟩ x.length (x.length + 1) lo st = pure (ForInStep.yield (st.fst.push lo, lo + 1)) := by
        unfold occBody
        rw [if_pos ⟨⟨⟨by omega, h1⟩, s1.1⟩, s1.2⟩]; rfl
      rw [hb]
      refine (occ_count x c n (lo + 1) (st.fst.push lo, lo + 1) (by omega) (Nat.le_refl _) (by rw [Array.size_push]; omega)).trans ?_
      rw [Array.size_push]
      obtain ⟨hlt, hc⟩ := List.getElem?_eq_some_iff.mp c1
      rw [List.drop_eq_getElem_cons hlt, hc, List.count_cons_self]
      omega
    · have hb : occBody x ⟨#[c]⟩ x.length (x.length + 1) lo st = pure (ForInStep.yield (st.fst, st.snd)) := by
        unfold occBody
        rw [if_neg fun w => c1 ((subAt_one x c lo).mp ⟨w.1.2, w.2⟩)]
      rw [hb]
      refine (occ_count x c n (lo + 1) (st.fst, st.snd) (by omega) (by show st.2 ≤ _; omega) (by show st.1.size ≤ _; omega)).trans ?_
      by_cases hlt : lo < x.cps.toList.length
      · rw [List.drop_eq_getElem_cons hlt, List.count_cons_of_ne (fun w => c1 (List.getElem?_eq_some_iff.mpr ⟨hlt, w⟩))]
      · rw [List.drop_eq_nil_of_le (by omega), List.drop_eq_nil_of_le (by omega)]
theorem txt_count (l : List Nat) (c : Nat) : Txt.count (tx l) (tx [c]) = (l.count c : Nat) := by
  unfold Txt.count
  rw [PySem.StrLaws.occ_eq, Array.length_toList]
  have := occ_count (tx l) c ((tx l).length + 1 - 0) 0 (#[], 0) (by omega) (Nat.le_refl _) (Nat.le_refl _)
  rw [show (tx [c] : Str) = ⟨#[c]⟩ from rfl, this]
  simp
theorem evp_countS {l : List Nat} {c : Nat} (ho : EvP X T o S (tD l)) (he : EvP X T e S (tD [c]))
    (hs : starEach [e] X.env = [(false, eval e X.env)] := by rfl) (hbase : attributeBase o "count" X.env (eval o X.env) = eval o X.env := by rfl) (hline : (apos.endLine == pos.line) = true := by rfl) : EvP X T (.Call (.Attribute o "count" apos) [e] [] pos) S (nD (l.count c)) :=
  evp_m1 F.slot_str_count F.type_str_count mt_count ho he (fun R σ H v Q I r q => by
    cases r
    refine ⟨tx l, tx [c], rfl, rfl, ?_⟩
    rw [txt_count]
    exact q R _ H I Nx.refl (.int _)) hs hbase hline
/-! strip: of nothing but such signs nothing is left -/
theorem strip_all {l cs : List Nat} (h : ∀ c ∈ l, c ∈ cs) : Txt.stripChars (tx l) (tx cs) = tx [] := by
  have hg : ∀ c ∈ l, (tx cs).cps.contains c = true := fun c hc => by
    show cs.toArray.contains c = true
    simpa using h c hc
  have h1 : l.takeWhile (fun c => (tx cs).cps.contains c) = l := by
    clear h
    induction l with
    | nil => rfl
    | cons a r ih =>
      rw [List.takeWhile_cons, if_pos (hg a List.mem_cons_self), ih fun c hc => hg c (List.mem_cons_of_mem _ hc)]
  have h2 : stripLo (tx cs).cps.contains true (tx l) = l.length := by
    show (l.takeWhile (fun c => (tx cs).cps.contains c)).length = _
    rw [h1]
  unfold Txt.stripChars Txt.stripBy
  by_cases c : stripSame (tx cs).cps.contains true true (tx l) = true
  · rw [if_pos c]
    unfold stripSame at c
    rw [h2] at c
    have h0 : l.length = 0 := eq_of_beq (Bool.and_eq_true_iff.mp c).1
    rw [List.length_eq_zero_iff.mp h0]
  · rw [if_neg c]
    unfold stripped
    rw [h2]
    refine TL.ext_tl ?_
    rw [TL.tl_strSub]
    have : (TL.tl (tx l)).drop l.length = [] := List.drop_eq_nil_of_le (Nat.le_refl _)
    rw [this, List.take_nil]
theorem evp_stripAll {l cs : List Nat} (ho : EvP X T o S (tD l)) (he : EvP X T e S (tD cs)) (h : ∀ c ∈ l, c ∈ cs) (hl : l.length ≤ sizeLine)
    (hs : starEach [e] X.env = [(false, eval e X.env)] := by rfl) (hbase : attributeBase o "strip" X.env (eval o X.env) = eval o X.env := by rfl) (hline : (apos.endLine == pos.line) = true := by rfl) : EvP X T (.Call (.Attribute o "strip" apos) [e] [] pos) S (tD []) :=
  evp_m1 F.slot_str_strip F.type_str_strip mt_stripChars ho he (fun R σ H v Q I r q => by
    cases r
    refine ⟨tx l, tx cs, rfl, rfl, by rw [tx_len]; exact hl, ?_⟩
    rw [strip_all h]
    exact q R _ H I Nx.refl (.str _)) hs hbase hline
/-! a sign so many times -/
theorem op_mulS : OpR X (binaryOp .Mult) (fun x y H Q => ∃ c n : Nat, x = .str (tx [c]) ∧ y = .int (n : Int) ∧ n ≤ 16777216 ∧ Q (.str (tx (List.replicate n c))) H) := by
  intro pins s σ H x y v u Q I rx ry h
  obtain ⟨c, n, rfl, rfl, hn, q⟩ := h
  obtain ⟨t, rfl⟩ := rx
  obtain ⟨t', rfl⟩ := ry
  refine PySem.P.mul_str ?_ (fun h1 h2 => ?_) (fun h1 h2 => ?_) ?_
  · have h1 : ¬ (n : Int) < -(2 ^ 63 : Int) := by omega
    have h2 : ¬ (n : Int) ≥ 2 ^ 63 := by omega
    rw [decide_eq_false h1, decide_eq_false h2]; rfl
  · have e : (tx [c]).length = 1 := rfl
    rw [e]
    have h0 : (0 : Int) < (n : Int) := by omega
    have : (1 : Int) ≤ (2 ^ 63 - 1) / (n : Int) := (Int.le_ediv_iff_mul_le h0).mpr (by omega)
    omega
  · have e : (tx [c]).length = 1 := rfl
    rw [e]
    unfold Builtin.Str.tooLong
    rw [decide_eq_false_iff_not, sizeLine_eq]
    omega
  · by_cases h0 : (n : Int) < 1
    · rw [if_pos h0]
      have : n = 0 := by omega
      subst this
      exact ⟨by decide, .str _, H, I.tok _, ⟨_, rfl⟩, q⟩
    · rw [if_neg h0]
      by_cases h1 : ((n : Int) == 1 || (tx [c]).length == 0) = true
      · rw [if_pos h1]
        have h2 : n = 1 := by
          rcases Bool.or_eq_true_iff.mp h1 with w | w
          · have := eq_of_beq w; omega
          · exact absurd (eq_of_beq w) (by show (1 : Nat) ≠ 0; decide)
        subst h2
        exact ⟨.str _, H, I, ⟨t, rfl⟩, q⟩
      · rw [if_neg h1]
        have e : ∀ (k : Nat) (a : Array Nat), (List.replicate k (tx [c]).cps).foldl (· ++ ·) a = a ++ (List.replicate k c).toArray := by
          intro k
          induction k with
          | zero => intro a; simp
          | succ k ih => intro a; rw [List.replicate_succ, List.foldl_cons, ih]; apply Array.ext'; simp [List.replicate_succ]
        have e2 : (⟨(List.replicate (n : Int).toNat (tx [c]).cps).foldl (· ++ ·) #[]⟩ : Str) = tx (List.replicate n c) := by
          rw [e, Int.toNat_natCast]; simp
        rw [e2]
        exact ⟨by rw [tx_len, List.length_replicate, sizeLine_eq]; omega, .str _, H, I.tok _, ⟨_, rfl⟩, q⟩
theorem opn_mulS {c n : Nat} (hn : n ≤ 16777216) : OpD X T (binaryOp .Mult) (tD [c]) (nD n) (tD (List.replicate n c)) := fun S R σ H a b Q I ra rb q => by
  cases ra; cases rb
  exact ⟨_, op_mulS, c, n, rfl, rfl, hn, q R _ H I Nx.refl (.str _)⟩
/-! a text turned about -/
theorem pick_revN (l : List Nat) : (List.range l.length).filterMap (fun (k : Nat) => l.toArray[(((l.length : Int) - 1) + (-1) * (k : Int)).toNat]?) = l.reverse := by
  apply List.ext_getElem?
  intro i
  have key : ∀ n, n ≤ l.length → (List.range n).filterMap (fun (k : Nat) => l.toArray[(((l.length : Int) - 1) + (-1) * (k : Int)).toNat]?) = l.reverse.take n := by
    intro n
    induction n with
    | zero => intro _; simp
    | succ n ih =>
      intro hn
      rw [List.range_succ, List.filterMap_append, ih (by omega), List.take_add_one]
      congr 1
      have e : (((l.length : Int) - 1) + (-1) * (n : Int)).toNat = l.length - 1 - n := by omega
      rw [List.filterMap_cons, e]
      have e2 : l.toArray[l.length - 1 - n]? = some l[l.length - 1 - n] := by
        rw [List.getElem?_toArray, List.getElem?_eq_getElem (by omega)]
      rw [e2, List.getElem?_reverse (by omega), List.getElem?_eq_getElem (by omega)]
      rfl
  rw [key l.length (Nat.le_refl _), List.take_of_length_le (by simp)]
theorem picked_rev (l : List Nat) (u : Tok) : ((slicePicked (tx l) none none (some (-1, u))).filterMap ((tx l).cps[·]?)) = l.reverse := by
  have e : slicePicked (tx l) none none (some (-1, u)) = (List.range l.length).map fun (k : Nat) => (((l.length : Int) - 1) + (-1) * (k : Int)).toNat := by
    show Builtin.Str.strSliceIndices none none (-1) (tx l).length = _
    rw [tx_len]
    show sliceRange ((l.length : Int) - 1) (-1) (-1) = _
    unfold sliceRange
    simp only [show ¬ ((-1 : Int) > 0) by decide, if_false]
    congr 2
    split
    · rw [show (-(-1 : Int)) = 1 from rfl, Int.ediv_one]; omega
    · omega
  rw [e, List.filterMap_map]
  exact pick_revN l
theorem pe_revS {te : TE} {k : Nat} {p1 p2 p3 : Pos} (he : PE X e te) : PE X (.Subscript e (.Slice none none (some (.UnaryOp .USub (.Constant (.int 1) k p1) p2)) p3) pos)
    (fun σ H Q => te σ H fun x H1 => ∃ l : List Nat, x = .str (tx l) ∧ l.length ≤ sizeLine ∧ Q (.str (tx l.reverse)) H1) := by
  refine ⟨fun pins s σ H Q I h => ?_⟩
  refine Subscript_ (thn (he.run pins s σ H _ I h) fun v s1 ⟨x, H1, I1, r1, q1⟩ => ?_)
  obtain ⟨l, ex, hx, q⟩ := q1
  subst ex
  obtain ⟨tk, rfl⟩ := r1
  have hst : PO X (some (.UnaryOp .USub (.Constant (.int 1) k p1) p2)) (tPart (tUn (rU fun i => .int (-i)) (tC (.int 1)))) := po_some (pe_un un_neg pe_int)
  refine wpAny_Slice (thn (po_none.run pins s1 σ H1 (fun o H2 => o = none ∧ H2 = H1) I1 ⟨rfl, rfl⟩) fun vl s2 ⟨l2, H2, I2, pl, el, e2⟩ => ?_)
  subst el e2
  refine thn (po_none.run pins s2 σ H2 (fun o H3 => o = none ∧ H3 = H2) I2 ⟨rfl, rfl⟩) fun vu s3 ⟨u, H3, I3, pu, eu, e3⟩ => ?_
  subst eu e3
  refine thn (hst.run pins s3 σ H3 (fun o H4 => o = some (-1) ∧ H4 = H3) I3 ⟨1, rfl, -1, rfl, rfl, rfl⟩) fun vs s4 ⟨o, H4, I4, ps, eo, e4⟩ => ?_
  subst eo e4
  cases pl
  cases pu
  cases ps with
  | int i t =>
  have I5 : Inv X pins σ H4 { s4 with heap := s4.heap.push { cls := .type "slice", data := .fields #[.none, .none, .int (-1) t] } } := I4.kept (t' := s4.toks) fun b ob q => Heap.get?_push_of_some _ q
  show wpAny (model X.prog X.w) X.A (subscriptTail e (.Slice none none (some (.UnaryOp .USub (.Constant (.int 1) k p1) p2)) p3) (.str (tx l) tk) (.ref s4.heap.objs.size)) (EP X pins σ Q) X.xe { s4 with heap := s4.heap.push { cls := .type "slice", data := .fields #[.none, .none, .int (-1) t] } }
  refine tail_any (ops := [.str (tx l) tk, .ref s4.heap.objs.size]) (typeIs_str _ _ _) (F.slot_str_getitem.lookup) ?_ (by with_unfolding_all rfl)
  refine wpAny_getItem_str_slice (l := none) (u := none) (st := some (-1, t)) ⟨_, Heap.get?_push_size _ rfl, rfl, rfl⟩ rfl ?_
  have e6 : sliceMade (tx l) tk none none (some (-1, t)) = Made.str (tx l.reverse) := by
    unfold sliceMade
    rw [picked_rev]
    rfl
  rw [e6]
  exact ⟨by rw [tx_len, List.length_reverse]; exact hx, .str _, _, I5.tok _, ⟨_, rfl⟩, q⟩
theorem evp_revS {l : List Nat} {k : Nat} {p1 p2 p3 : Pos} (h : EvP X T e S (tD l)) (hl : l.length ≤ sizeLine) : EvP X T (.Subscript e (.Slice none none (some (.UnaryOp .USub (.Constant (.int 1) k p1) p2)) p3) pos) S (tD l.reverse) := fun R σ H I Q q =>
  wpE_of (pe_revS pe_wp) (h R σ H I _ fun R1 v H1 d b ⟨e1, e2⟩ I1 n1 r1 => by
    subst e1 e2
    cases r1
    exact ⟨l, rfl, hl, q _ _ _ _ _ ⟨rfl, rfl⟩ I1 n1 (.str _)⟩)
/-! tuples of texts -/
def signOk (l : List Nat) : Bool := PyData.strOk (tx l)
theorem canLay_S : ∀ {ls : List (List Nat)}, (∀ l ∈ ls, signOk l = true) → PyData.canLayAll0 (ls.map tD) = true
  | [], _ => rfl
  | x :: r, h => by
    show (PyData.strOk (tx x) && PyData.canLayAll0 (r.map tD)) = true
    have hx := h x List.mem_cons_self
    unfold signOk at hx
    rw [hx, canLay_S fun l hl => h l (List.mem_cons_of_mem _ hl)]; rfl
theorem depth_S : ∀ ls : List (List Nat), PyData.depthAll (ls.map tD) = 0
  | [] => rfl
  | x :: r => by show max 0 (PyData.depthAll (r.map tD)) = 0; rw [depth_S r]; rfl
theorem shaped_TS {ls : List (List Nat)} (h : ∀ l ∈ ls, signOk l = true) : SeqAt.shaped (.tuple (ls.map tD)) = true := by
  unfold SeqAt.shaped
  rw [Bool.and_eq_true, decide_eq_true_eq]
  exact ⟨canLay_S h, by show PyData.depthAll (ls.map tD) + 1 ≤ 64; rw [depth_S]; omega⟩
theorem eqv_tD (i j : List Nat) : PyData.eqv (tD i) (tD j) = decide (i = j) := by
  show (tx i == tx j) = _
  rw [← tx_eq, Bool.beq_eq_decide_eq]
theorem eqvAll_S : ∀ (a b : List (List Nat)), PyData.eqvAll (a.map tD) (b.map tD) = decide (a = b)
  | [], [] => rfl
  | x :: a, y :: b => by
    show (PyData.eqv (tD x) (tD y) && PyData.eqvAll (a.map tD) (b.map tD)) = _
    rw [eqv_tD, eqvAll_S a b, ← Bool.decide_and]
    exact dec_congr (by rw [List.cons.injEq])
  | [], _ :: _ => rfl
  | _ :: _, [] => rfl
theorem eqv_TS (a b : List (List Nat)) : PyData.eqv (.tuple (a.map tD)) (.tuple (b.map tD)) = decide (a = b) := eqvAll_S a b
theorem opn_eqTS {a b : List (List Nat)} (hu : X.A.units + 64 < cLine) (ha : ∀ l ∈ a, signOk l = true) (hb : ∀ l ∈ b, signOk l = true) : OpD X T (compareOp .Eq) (.tuple (a.map tD)) (.tuple (b.map tD)) (.bool (decide (a = b))) := by
  rw [← eqv_TS]; exact opd_eqD hu (shaped_TS ha) (shaped_TS hb)
theorem opn_neTS {a b : List (List Nat)} (hu : X.A.units + 64 < cLine) (ha : ∀ l ∈ a, signOk l = true) (hb : ∀ l ∈ b, signOk l = true) : OpD X T (compareOp .NotEq) (.tuple (a.map tD)) (.tuple (b.map tD)) (.bool (!decide (a = b))) := by
  rw [← eqv_TS]; exact opd_neD hu (shaped_TS ha) (shaped_TS hb)
theorem signOk_of {l : List Nat} (h : ∀ c ∈ l, c < 128) : signOk l = true := by
  unfold signOk PyData.strOk
  show (l.toArray.all _) = true
  simp only [List.all_toArray, List.all_eq_true]
  intro c hc
  have := h c hc
  simp
  omega
end
end PL
set_option maxHeartbeats 4000000
/-! pictures: rows as signs -/
namespace PL
open PySem RZ
def sg (x : Nat) : Nat := if x = 0 then 46 else 35
def shL (p n : Nat) : List Nat := (rwL p n).map sg
def shA (p m : Nat) : List (List Nat) := (List.range m).map (shL p)
theorem sg_or (x : Nat) : sg x = 35 ∨ sg x = 46 := by unfold sg; split <;> simp
theorem shL_len (p n : Nat) : (shL p n).length = n + 1 := by unfold shL; rw [List.length_map, rwL_len]
theorem shA_len (p m : Nat) : (shA p m).length = m := by unfold shA; rw [List.length_map, List.length_range]
theorem shA_get {p m i : Nat} (h : i < m) : (shA p m)[i]? = some (shL p i) := by
  unfold shA; rw [List.getElem?_map, List.getElem?_range h]; rfl
theorem shL_mem {p n c : Nat} (h : c ∈ shL p n) : c = 35 ∨ c = 46 := by
  unfold shL at h
  obtain ⟨x, _, rfl⟩ := List.mem_map.mp h
  exact sg_or x
theorem sg_count (l : List Nat) : (l.map sg).count 35 + l.count 0 = l.length := by
  induction l with
  | nil => rfl
  | cons a r ih =>
    rw [List.map_cons, List.count_cons, List.count_cons, List.length_cons]
    by_cases h : a = 0
    · subst h; simp [sg] at ih ⊢; omega
    · simp [sg, h] at ih ⊢; omega
theorem sg_count0 (l : List Nat) : (l.map sg).count 46 = l.count 0 := by
  induction l with
  | nil => rfl
  | cons a r ih =>
    rw [List.map_cons, List.count_cons, List.count_cons, ih]
    by_cases h : a = 0
    · subst h; simp [sg]
    · simp [sg, h]
theorem shL_count {p : Nat} (hp : Pr p) (n : Nat) : (shL p n).count 35 = PL.cnt p n := by
  have h1 := sg_count (rwL p n)
  have h2 := NR_cnt hp n
  rw [rwL_count, rwL_len] at h1
  unfold shL
  omega
theorem shL_full {p : Nat} (hp : Pr p) (h : Nat) : 46 ∉ shL p (p ^ h - 1) := by
  have h2 := Pr_two hp
  have h1 := full_of h2 (d := 1) (by omega) (by omega) h
  have h3 := NR_cnt hp (1 * p ^ h - 1)
  have h4 : 0 < p ^ h := Nat.pow_pos (by omega)
  rw [Nat.one_mul] at h1 h3
  intro hm
  have h5 := List.count_pos_iff.mpr hm
  have h6 : (shL p (p ^ h - 1)).count 46 = (rwL p (p ^ h - 1)).count 0 := sg_count0 _
  rw [rwL_count] at h6
  omega
theorem shL_rev (p n : Nat) : (shL p n).reverse = shL p n := by
  unfold shL
  rw [← List.map_reverse, rwL_rev]
theorem shL_head {p : Nat} (hp : Pr p) (n : Nat) : (shL p n)[0]? = some 35 := by
  have h2 := Pr_two hp
  unfold shL
  rw [List.getElem?_map, rwL_get (Nat.zero_le n), C_zero, Nat.mod_eq_of_lt (by omega)]; rfl
theorem shA_count {p : Nat} (hp : Pr p) (m : Nat) : (shA p m).flatten.count 35 = bel p m := by
  rw [bel_sum (Pr_two hp), List.count_flatten]
  unfold shA
  rw [List.map_map]
  congr 1
  refine List.map_congr_left fun n _ => ?_
  exact shL_count hp n
theorem shA_flat_le (p : Nat) : ∀ m, (shA p m).flatten.length ≤ m * (m + 1)
  | 0 => Nat.le_refl _
  | m + 1 => by
    have ih := shA_flat_le p m
    unfold shA at ih ⊢
    rw [List.range_succ, List.map_append, List.flatten_append, List.length_append]
    have : ([m].map (shL p)).flatten.length = m + 1 := by simp [shL_len]
    rw [this]
    have : (m + 1) * (m + 1 + 1) = m * (m + 1) + 2 * (m + 1) := by rw [Nat.mul_comm (m + 1) (m + 1 + 1)]; rw [show m + 1 + 1 = m + 2 from rfl, Nat.add_mul]
    omega
/-! a picture made of the lesser one -/
theorem lucas_pow {p : Nat} (hp : Pr p) (b c : Nat) : ∀ (h a j : Nat), a < p ^ h → j < p ^ h → C (b * p ^ h + a) (c * p ^ h + j) % p = C b c * C a j % p
  | 0, a, j, ha, hj => by
    have h1 : a = 0 := by simpa using ha
    have h2 : j = 0 := by simpa using hj
    subst h1 h2
    simp [C_zero]
  | h + 1, a, j, ha, hj => by
    have h2 := Pr_two hp
    have hp0 : 0 < p := by omega
    have ea : b * p ^ (h + 1) + a = (b * p ^ h + a / p) * p + a % p := by
      rw [Nat.add_mul, Nat.pow_succ, ← Nat.mul_assoc, Nat.add_assoc, Nat.mul_comm (a / p) p, Nat.div_add_mod]
    have ej : c * p ^ (h + 1) + j = (c * p ^ h + j / p) * p + j % p := by
      rw [Nat.add_mul, Nat.pow_succ, ← Nat.mul_assoc, Nat.add_assoc, Nat.mul_comm (j / p) p, Nat.div_add_mod]
    have la : a / p < p ^ h := Nat.div_lt_of_lt_mul (by rw [Nat.mul_comm, ← Nat.pow_succ]; exact ha)
    have lj : j / p < p ^ h := Nat.div_lt_of_lt_mul (by rw [Nat.mul_comm, ← Nat.pow_succ]; exact hj)
    rw [ea, ej, lucas_mul hp (Nat.mod_lt _ hp0) (Nat.mod_lt _ hp0), Nat.mul_mod, lucas_pow hp b c h _ _ la lj, ← Nat.mul_mod, Nat.mul_assoc, Nat.mul_mod (C b c) (C (a / p) (j / p) * _), ← lucas1 hp, ← Nat.mul_mod]
theorem sg_block {p : Nat} (hp : Pr p) {h b c a j : Nat} (hb : b < p) (hc : c ≤ b) (ha : a < p ^ h) (hj : j < p ^ h) : sg (C (b * p ^ h + a) (c * p ^ h + j) % p) = sg (C a j % p) := by
  unfold sg
  rw [lucas_pow hp b c h a j ha hj]
  have h1 : C b c % p ≠ 0 := fun z => by have := (C_small hp hb (by omega)).mp z; omega
  by_cases z : C a j % p = 0
  · rw [if_pos z, if_pos ((Pr_mul0 hp).mpr (.inr z))]
  · rw [if_neg z, if_neg fun w => by exact (Pr_mul0 hp).mp w |>.elim h1 z]
def blk (p w a : Nat) : Nat → List Nat
  | 0 => []
  | c + 1 => blk p w a c ++ shL p a ++ List.replicate (w - 1 - a) 46
theorem blk_len {p w a : Nat} (h : a < w) : ∀ c, (blk p w a c).length = c * w
  | 0 => by rw [Nat.zero_mul]; rfl
  | c + 1 => by
    show (blk p w a c ++ shL p a ++ List.replicate (w - 1 - a) 46).length = _
    rw [List.length_append, List.length_append, blk_len h c, shL_len, List.length_replicate, Nat.succ_mul]
    omega
theorem map_range_add {f : Nat → Nat} (m : Nat) : ∀ n, (List.range (m + n)).map f = (List.range m).map f ++ (List.range n).map fun k => f (m + k)
  | 0 => by simp
  | n + 1 => by
    rw [← Nat.add_assoc, List.range_succ, List.map_append, map_range_add m n, List.range_succ, List.map_append, List.append_assoc]; rfl
theorem sh_all (p a : Nat) : ∀ d, (List.range (a + 1 + d)).map (fun j => sg (C a j % p)) = shL p a ++ List.replicate d 46
  | 0 => by unfold shL rwL; rw [List.map_map]; simp [Function.comp_def]
  | d + 1 => by
    rw [← Nat.add_assoc, List.range_succ, List.map_append, sh_all p a d, List.append_assoc, List.replicate_succ']
    congr 2
    have : C a (a + 1 + d) = 0 := C_gt (by omega)
    rw [List.map_cons, this, Nat.zero_mod]; rfl
theorem blk_row {p : Nat} (hp : Pr p) {h b a : Nat} (hb : b < p) (ha : a < p ^ h) : ∀ c, c ≤ b → (List.range (c * p ^ h)).map (fun k => sg (C (b * p ^ h + a) k % p)) = blk p (p ^ h) a c
  | 0, _ => by rw [Nat.zero_mul]; rfl
  | c + 1, hc => by
    rw [Nat.succ_mul, map_range_add, blk_row hp hb ha c (by omega)]
    show _ = blk p (p ^ h) a c ++ shL p a ++ List.replicate (p ^ h - 1 - a) 46
    rw [List.append_assoc, ← sh_all]
    congr 1
    rw [show a + 1 + (p ^ h - 1 - a) = p ^ h by omega]
    refine List.map_congr_left fun j hj => ?_
    exact sg_block hp hb (by omega) ha (List.mem_range.mp hj)
theorem shL_big {p : Nat} (hp : Pr p) {h b a : Nat} (hb : b < p) (ha : a < p ^ h) : shL p (b * p ^ h + a) = blk p (p ^ h) a b ++ shL p a := by
  have e : shL p (b * p ^ h + a) = (List.range (b * p ^ h + (a + 1))).map fun k => sg (C (b * p ^ h + a) k % p) := by
    unfold shL rwL; rw [List.map_map]; rfl
  rw [e, map_range_add, blk_row hp hb ha b (Nat.le_refl _)]
  congr 1
  have e2 : shL p a = (List.range (a + 1)).map fun k => sg (C a k % p) := by unfold shL rwL; rw [List.map_map]; rfl
  rw [e2]
  refine List.map_congr_left fun j hj => ?_
  have := List.mem_range.mp hj
  exact sg_block hp hb (Nat.le_refl _) ha (by omega)
def nxT (p w a b i : Nat) : List Nat := if i ≤ b then blk p w a i else blk p w a b ++ shL p a
theorem flat_one {f : Nat → Nat} (l : List Nat) : (l.map fun k => [f k]).flatten = l.map f := by
  induction l with
  | nil => rfl
  | cons a r ih => rw [List.map_cons, List.flatten_cons, ih]; rfl
theorem signOk_sh {p m : Nat} : ∀ l ∈ shA p m, signOk l = true := fun l hl => by
  unfold shA at hl
  obtain ⟨n, _, rfl⟩ := List.mem_map.mp hl
  refine signOk_of fun c hc => ?_
  rcases shL_mem hc with rfl | rfl <;> decide
def sp_shape : SpD := spE e2 (fun a => a.1 < 60 ∧ a.2 ^ a.1 ≤ 1000 ∧ Pr a.2) fun a => .tuple ((shA a.2 (a.2 ^ a.1)).map tD)
end PL
set_option maxHeartbeats 4000000
namespace PL
open PySem PySem.Spec PyProof.Rows L2 RZ
/-- x, y = a new list, a plain value -/
theorem run_par2M {X : Cx} {T : Option Addr} {S : Sta} {k : KD} {rest : List Stmt} {a b : Expr} {pos : Pos} (i j : Nat) {ds1 : List PyData} {d2 : PyData} {x y : Str} {px py pt pt2 : Pos} {kt k2 : Nat} (ha : EvNP X T a S.drp ds1) (hb : EvP X T b S.drp d2)
    (q : Run X T rest ⟨S.b, (S.sl.set i (some (.mu ds1))).set j (some (.dat d2))⟩ k) (hN : X.N.Nodup) (hij : i ≠ j := by decide) (hi : X.N[i]? = some x := by rfl) (hj : X.N[j]? = some y := by rfl)
    (hx : X.env.scope.names.lookup x = some .local := by rfl) (hy : X.env.scope.names.lookup y = some .local := by rfl) (hw : swappedStores [.Tuple [.Name x px, .Name y py] kt pt] (.Tuple [a, b] k2 pt2) X.env = pure (some [x, y]) := by rfl)
    (hs : swapsWithSole [.Tuple [.Name x px, .Name y py] kt pt] (.Tuple [a, b] k2 pt2) pos.line X.env = pure false := by rfl) (hc : X.calm = true := by rfl)
    (hs2 : starEach [a, b] X.env = (false, eval a X.env) :: starEach [b] X.env := by rfl) (hs1 : starEach [b] X.env = (false, eval b X.env) :: starEach [] X.env := by rfl) :
    Run X T (.Assign [.Tuple [.Name x px, .Name y py] kt pt] (.Tuple [a, b] k2 pt2) pos :: rest) S k := fun B R σ H I D L => by
  refine seq_of (ps_par hc hN hi hj hij hx hy (pa_cons pe_wp (pa_cons pe_wp pa_nil hs1) hs2) hw hs) (ha R σ H I.drp _ fun R1 p1 xs1 H1 e1 b1 k1 I1 n1 u1 u2 u3 u4 u5 => ?_)
  obtain ⟨k1, k1'⟩ := k1
  subst k1 k1'
  refine hb R1 σ H1 I1 _ fun R2 v2 H2 e2 b2 k2 I2 n2 r2 => ?_
  obtain ⟨k2, k2'⟩ := k2
  subst k2 k2'
  have I3 := I.after I2.le (n1.trans n2) I2.tw
  have I4 := I3.setM (i := i) (u5.le n2.lr) (n2.lx p1 _ u2 u4) (n2.av p1 u2 (by rw [u4]; simp) u3) (I.n.none_of u2 u1) u2 fun l es _ hl hσ => by
    obtain ⟨xs', _, w, _⟩ := I.mu ⟨l, es, hl, hσ⟩
    rw [u1] at w; cases w
  exact ⟨_, _, rfl, q B R2 _ H2 (I4.setOne (i := j) r2) D L⟩
theorem atI_of {α : Type} {xs : List α} {j : Nat} {v : α} (h : xs[j]? = some v) : atI xs (j : Int) = some v := atI_nat h
theorem cutT_take {α : Type} {f : α → PyData} {ns : List α} {k : Nat} : cutD (ns.map f) none (some (k : Int)) = (ns.take k).map f := by
  unfold cutD
  rw [HT.sIx_none, HT.sIx_nat, List.drop_zero, Nat.sub_zero, List.length_map, ← List.map_take]
  congr 1
  rcases Nat.le_total k ns.length with g | g
  · rw [Nat.min_eq_left g]
  · rw [Nat.min_eq_right g, List.take_length, List.take_of_length_le g]
theorem shA_take (p : Nat) {m n : Nat} (h : m ≤ n) : (shA p n).take m = shA p m := by
  unfold shA
  rw [← List.map_take, List.take_range, Nat.min_eq_left h]
theorem sg_if (x : Nat) : (bif ((x : Int) != 0) then tD [35] else tD [46]) = tD [sg x] := by
  unfold sg
  by_cases z : x = 0
  · subst z; rfl
  · have : ((x : Int) != 0) = true := by simp [z]
    rw [this, if_neg z]; rfl
end PL
set_option maxHeartbeats 4000000
/-! enumerate of a text; a dict display asked at once -/
namespace PL
open PySem PySem.Spec PyProof.Rows L2 RZ
open Sem (wp)
theorem pyNext_enumS_end {prog : Program} {w : World} {A : Around} {E : Value → Shared → Prop} {s : Shared} {e it : Addr} {x : Str} {t : Tok} {i : Nat} {old : Value} {Q : Option Value → Shared → Prop} (hh : A.handled = none)
    (he : IsEnum s.heap e it i old) (hit : s.heap.IsStrIter it "str_ascii_iterator" x t i) (hx : x.cps[i]? = none)
    (hQ : ∀ h', Heap.ExtBut it s.heap h' → Q none { s with heap := h' }) : wpAny (model prog w) A (pyNext (.ref e)) Q E s := by
  have hT : s.TypeIs (.ref e) "enumerate" := ⟨_, he, rfl⟩
  unfold pyNext
  refine wpAny_bind (wpAny_attempt (wpAny_callSpecial?_slot (name := Str.ofString "__next__") hT F.slot_enumerate_next
    (wpAny_call_entry F.slot_enumerate_next hT F.entry_enumerate_next ?_ (F.args_enumerate_next_1 _))))
  show wpAny _ _ (field (.ref e) 2 >>= _) _ _ _
  refine wpAny_bind (wpAny_field he rfl (x := .ref it) rfl ?_)
  refine wpAny_bind (wpAny_nextOf_ascii_end hh hit hx fun h' x he' hx' => ?_)
  obtain ⟨o, ho, hc⟩ := hx'
  refine wpAny_bind (wpAny_isInstance (T := "StopIteration") (b := true) ⟨o, ho, hc⟩ isSubtype_stop ?_)
  exact wpAny_pure (hQ _ he')
def IteS (x : Str) : It :=
  ⟨fun i _ => i < x.cps.size, fun i H v H' => ∃ T c, v = .ref T ∧ H T = none ∧ H' = upd H T (.tup [.int (i : Nat), .str ⟨#[c]⟩]) ∧ x.cps[i]? = some c, fun i _ => x.cps.size ≤ i⟩
theorem turn_enumS {P : Program} {w : World} {K : PySem.W.Frag} {elts : List Expr} {kk : Nat} {tpos : Pos} (x : Str) (t : Tok) (e it : Addr) :
    Turn P w K (.Tuple elts kk tpos) (IteS x) [e, it] e (fun i h => (∃ old, IsEnum h e it ((i : Nat) : Int) old) ∧ h.IsStrIter it "str_ascii_iterator" x t i ∧ e ≠ it) where
  mem := by simp
  obj := fun i h st b hb => by
    obtain ⟨⟨old, he⟩, ⟨o, ho, hc, hd⟩, _⟩ := st
    have e' : b = e ∨ b = it := by simpa using hb
    rcases e' with z | z
    · rw [z]; exact ⟨_, he, fun v q => nomatch q⟩
    · rw [z]; exact ⟨o, ho, fun v q => by rw [hd] at q; cases q⟩
  keep := fun i h h' st k => let ⟨⟨old, he⟩, ⟨o, ho, r⟩, hne⟩ := st; ⟨⟨old, k e (by simp) _ he⟩, ⟨o, k it (by simp) o ho, r⟩, hne⟩
  item := by
    intro X hP hw hK hc i pins s σ H E I hf st hg
    subst hP hw hK
    obtain ⟨⟨old, he⟩, hit, hne⟩ := st
    have hg : i < x.cps.size := hg
    have hel : e < s.heap.objs.size := Heap.lt_size he
    have hil : it < s.heap.objs.size := by obtain ⟨_, q, _⟩ := hit; exact Heap.lt_size q
    refine wpAny_pyNext_enum_itemD (Draws.strAscii (A := X.A.in1) (I.ok.hd hc) it x t) he hit hg hne (by simp [hne]) fun y h' tk hy ho hit' hT hsz hk => ?_
    obtain ⟨c, u, hcx, rfl⟩ := hy
    refine ⟨_, rfl, wpAny_letOwnedTupleGo_enum (s := { s with heap := h', toks := tk + 1 }) ho fun h'' he' sb => ?_⟩
    have hT2 : h''.get? s.heap.objs.size = some { cls := .type "tuple", data := .seq #[.int i tk, .str ⟨#[c]⟩ u] } := (sb.2 _ (Nat.ne_of_gt hel)).trans hT
    have new : ObjOk X.prog X.w (upd H s.heap.objs.size (.tup [.int (i : Nat), .str ⟨#[c]⟩])) h'' s.heap.objs.size (.tup [.int (i : Nat), .str ⟨#[c]⟩]) :=
      ⟨by show 2 ≤ sizeLine; decide, [.int i tk, .str ⟨#[c]⟩ u], .cons ⟨_, rfl⟩ (.cons ⟨_, rfl⟩ .nil), ⟨_, hT2, rfl, _, rfl⟩⟩
    have I1 : Inv X pins σ (upd H s.heap.objs.size (.tup [.int (i : Nat), .str ⟨#[c]⟩])) { s with heap := h'', toks := tk + 1 } :=
      I.turnedNew (ch := [e, it]) (fun b ob hb q => (sb.2 b (fun z => hb (by simp [z]))).trans (hk b ob (fun z => hb (by simp [z])) (fun z => hb (by simp [z])) q)) hf (Nat.le_refl _) new
    have hit2 : h''.IsStrIter it "str_ascii_iterator" x t (i + 1) := by
      obtain ⟨o, ho2, r⟩ := hit'
      exact ⟨o, (sb.2 it (Ne.symm hne)).trans ho2, r⟩
    refine ⟨.ref s.heap.objs.size, _, I1, rfl, ⟨_, c, rfl, I.hok.fresh (Nat.le_refl _), rfl, hcx⟩, ⟨⟨Value.str ⟨#[c]⟩ u, ?_⟩, hit2, hne⟩, fun b hb => ?_⟩
    · have e1 : ((i + 1 : Nat) : Int) = (i : Int) + 1 := by omega
      rw [e1]; exact he'
    · have hb' : b < s.heap.objs.size := by
        have e' : b = e ∨ b = it := by simpa using hb
        rcases e' with z | z
        · rw [z]; exact hel
        · rw [z]; exact hil
      rw [upd_ne (Nat.ne_of_lt hb')]
      exact (hf b hb).1
  done := by
    intro X hP hw hK hc i pins s σ H E I hf st hg
    subst hP hw hK
    obtain ⟨⟨old, he⟩, hit, hne⟩ := st
    have hx : x.cps[i]? = none := Array.getElem?_eq_none hg
    obtain ⟨f0, f1, f2, f3, f4, f5⟩ := hf it (by simp)
    exact pyNext_enumS_end (I.ok.hd hc) he hit hx fun h' eb => ⟨rfl, I.turned (t' := s.toks) (fun b o hb q => eb b o hb q) f0 f1 f3 f4 f5⟩
  self := fun A i s Q E st h => let ⟨⟨_, he⟩, _⟩ := st; wpAny_pyIter_enum he h
def iEnumS (ta : TA) : TI := fun σ H R => ta σ H fun vs H1 => ∃ x, vs = [.str x] ∧ x.cps.all (· < 128) = true ∧ R (IteS x) H1
theorem pi_enumS {X : L2.Cx} {e : Expr} {ta : TA} {p pos tpos : Pos} {elts : List Expr} {kk : Nat} (hg : Gl X "enumerate") (hm : X.mg "enumerate" = none) (ha : PA X [e] ta) (hs : starEach [e] X.env = [(false, eval e X.env)] := by rfl) :
    PI X (.Tuple elts kk tpos) (.Call (.Name "enumerate" p) [e] [] pos) (iEnumS ta) := by
  refine ⟨fun pins s σ H R I h => ?_⟩
  refine Call_ (ld_blt I hg hm boot_enumerate (PyProof.Rows.callWith_type1 (thn (ha.run pos pins s σ H _ I h) fun us s1 ⟨vs, H1, I1, r1, q1⟩ => ?_) hs rfl))
  obtain ⟨x, ex, hx, q⟩ := q1
  subst ex
  cases r1 with
  | cons r rr =>
    cases rr
    obtain ⟨t, rfl⟩ := r
    refine call_enumerate_str fun h' he hit hsz hk => wpAny_pyIter_enum he ?_
    have I2 : Inv X pins σ H1 { s1 with heap := h' } := I1.kept (t' := s1.toks) hk
    have hit' : h'.IsStrIter s1.heap.objs.size "str_ascii_iterator" x t 0 := by simpa [strIterType, hx] using hit
    refine ⟨s1.heap.objs.size + 1, [s1.heap.objs.size + 1, s1.heap.objs.size], _, _, H1, rfl, I2, turn_enumS x t (s1.heap.objs.size + 1) s1.heap.objs.size, ⟨⟨.none, he⟩, hit', Nat.succ_ne_self _⟩, fun b hb => ?_, q⟩
    have e' : b = s1.heap.objs.size + 1 ∨ b = s1.heap.objs.size := by simpa using hb
    have hle : s1.heap.objs.size ≤ b := by
      rcases e' with z | z
      · rw [z]; exact Nat.le_add_right _ _
      · rw [z]; exact Nat.le_refl _
    exact I1.fpOk hle (I1.hok.fresh hle)
def enumS (l : List Nat) : List PyData := (List.range l.length).map fun i => .tuple [nD i, tD [l.getD i 0]]
theorem enumS_len (l : List Nat) : (enumS l).length = l.length := by unfold enumS; rw [List.length_map, List.length_range]
theorem enumS_get {l : List Nat} {i : Nat} {x : PyData} (h : (enumS l)[i]? = some x) : ∃ c, l[i]? = some c ∧ x = .tuple [nD i, tD [c]] := by
  have hi : i < l.length := by have := (List.getElem?_eq_some_iff.mp h).1; rwa [enumS_len] at this
  unfold enumS at h
  rw [List.getElem?_map, List.getElem?_range hi] at h
  refine ⟨l[i], List.getElem?_eq_getElem hi, ?_⟩
  have := (Option.some.inj h).symm
  rw [this]
  show PyData.tuple [nD i, tD [l.getD i 0]] = _
  rw [List.getD_eq_getElem?_getD, List.getElem?_eq_getElem hi]; rfl
theorem walk_enumS {K : PySem.W.Frag} {R : Hp} (l : List Nat) : Walk K (IteS (tx l)) R (enumS l) where
  stop := fun i H le hi => by
    rw [enumS_len] at hi
    show l.toArray.size ≤ i
    rw [List.size_toArray]; exact hi
  go := fun i H x le hx => by
    obtain ⟨c, e1, e3⟩ := enumS_get hx
    have hi := (List.getElem?_eq_some_iff.mp e1).1
    refine ⟨by show i < l.toArray.size; rw [List.size_toArray]; exact hi, fun w H' hy => .inr ?_⟩
    obtain ⟨t, c2, g1, g2, g3, g4⟩ := hy
    have e4 : c2 = c := by
      have : (tx l).cps[i]? = l[i]? := List.getElem?_toArray
      rw [this, e1] at g4
      exact (Option.some.inj g4).symm
    subst e4
    exact ⟨t, _, [nD i, tD [c2]], g1, g2, g3, e3, .cons (.int _) (.cons (.str _) .nil)⟩
section
variable {X : Cx} {T : Option Addr} {S : Sta} {a : Expr} {elts : List Expr} {kk : Nat} {tpos p pos : Pos}
theorem eip_enumS {l : List Nat} (h : EvP X T a S (tD l)) (hl : ∀ c ∈ l, c < 128) (hm : X.mg "enumerate" = none) (hg : Gl X "enumerate" := by rfl)
    (hs : starEach [a] X.env = [(false, eval a X.env)] := by rfl) :
    EvIP X T (.Tuple elts kk tpos) (.Call (.Name "enumerate" p) [a] [] pos) S (enumS l) :=
  ⟨_, pi_enumS hg hm (pa_cons pe_wp pa_nil hs) hs, fun R σ H I Q q => by
    refine h R σ H I _ fun R1 v H1 d b ⟨e1, e2⟩ I1 n1 r1 => ?_
    subst e1 e2
    cases r1
    refine ⟨tx l, rfl, ?_, q _ R1 H1 _ _ ⟨rfl, rfl⟩ I1 n1 (walk_enumS l)⟩
    show l.toArray.all _ = true
    simp only [List.all_toArray, List.all_eq_true]
    intro c hc
    exact decide_eq_true (hl c hc)⟩
/-! a dict display with whole numbers, asked at once -/
def DispP (X : Cx) (T : Option Addr) (keys : List (Option Expr)) (vals : List Expr) (S : Sta) (kvs : List (Nat × Nat)) : Prop :=
  ∃ trs, (∀ pos, PPs X pos keys vals trs) ∧ ∀ R σ H, HE X.K T S R σ H → ∀ Q : List (V × V) → Hp → Prop,
    (∀ R' H', HE X.K T S R' σ H' → Nx T R H R' H' → Q (kvs.map fun q => (V.int (q.1 : Int), V.int (q.2 : Int))) H') → tPairs trs σ H Q
theorem disp_nil : DispP X T [] [] S [] := ⟨[], fun _ => pps_nil, fun R σ H I Q q => q R H I Nx.refl⟩
theorem disp_cons {k v : Expr} {ks : List (Option Expr)} {vs : List Expr} {i j : Nat} {kvs : List (Nat × Nat)} (hk : EvP X T k S (nD i)) (hv : EvP X T v S (nD j)) (hr : DispP X T ks vs S kvs) : DispP X T (some k :: ks) (v :: vs) S ((i, j) :: kvs) := by
  obtain ⟨trs, h1, h2⟩ := hr
  refine ⟨_, fun pos => pps_cons pe_wp pe_wp (h1 pos), fun R σ H I Q q => hk R σ H I _ fun R1 w H1 d b ⟨e1, e2⟩ I1 n1 r1 => ?_⟩
  subst e1 e2
  cases r1
  refine hv R1 σ H1 I1 _ fun R2 w H2 d b ⟨e1, e2⟩ I2 n2 r2 => ?_
  subst e1 e2
  cases r2
  exact h2 R2 σ H2 I2 _ fun R3 H3 I3 n3 => q R3 H3 I3 ((n1.trans n2).trans n3)
theorem evp_dispIx {keys : List (Option Expr)} {vals : List Expr} {i : Expr} {pos2 : Pos} {kvs : List (Nat × Nat)} {k v : Nat} (hd : DispP X T keys vals S kvs) (hi : EvP X T i S (nD k)) (hu : X.A.units + 1 < cLine)
    (hv : valV (mergeK [] (kvs.map fun q => (Sum.inl (q.1 : Int), V.int (q.2 : Int)))) (Sum.inl (k : Int)) = some (V.int (v : Int))) (hall : keys.all (·.isSome) = true := by rfl) (hl : keys.length = vals.length := by rfl) (h0 : keys ≠ [] := by simp)
    (h15 : keys.length ≤ 15 := by decide) (h16 : kvs.length ≤ 15 := by decide) (hs : NoSl i := by exact fun _ _ => rfl) : EvP X T (.Subscript (.Dict keys vals pos2) i pos) S (nD v) := fun R σ H I Q q => by
  obtain ⟨trs, h1, h2⟩ := hd
  refine wpE_of (pe_dget hu (pe_disp (h1 pos2) hall hl h0 h15) pe_wp hs) fun p hp => ?_
  refine h2 R σ _ (I.laid hp) _ fun R1 H1 I1 n1 => ?_
  have hT : T ≠ some p := I.notT hp
  have hp1 : H1 p = some (.dK []) := n1.lx p _ hT upd_same
  have hR1 : R1 p = none := n1.av p hT (by rw [upd_same]; simp) (I.le.fre hp)
  refine ⟨hp1, kvs.map fun q => (Sum.inl (q.1 : Int), V.int (q.2 : Int)), by rw [List.map_map]; rfl, by rw [List.length_map]; exact h16, ?_⟩
  generalize hm : (.dK (mergeK [] (kvs.map fun q => (Sum.inl (q.1 : Int), V.int (q.2 : Int)))) : HO) = o
  have I2 : HE X.K T S R1 σ (upd H1 p o) := ⟨I1.le.muts hR1, fun t e => by
    obtain ⟨r, zs, w, z⟩ := I1.tw t e
    exact ⟨r, zs, by rw [upd_ne fun w => hT (by rw [e, w])]; exact w, z⟩, I1.len, I1.sl⟩
  have n2 : Nx T R H R1 (upd H1 p o) := ⟨fun a u nt ha => by
    have hne : a ≠ p := fun e => by subst e; rw [hp] at ha; cases ha
    rw [upd_ne hne]
    exact n1.lx a u nt (by rw [upd_ne hne]; exact ha), n1.lr, fun a nt ha hr => by
    have hne : a ≠ p := fun e => by subst e; exact ha hp
    exact n1.av a nt (by rw [upd_ne hne]; exact ha) hr⟩
  refine hi R1 σ _ I2 _ fun R3 w H3 d b ⟨e1, e2⟩ I3 n3 r3 => ?_
  subst e1 e2
  cases r3
  have h3 : H3 p = some o := n3.lx p _ hT upd_same
  rw [← hm] at h3
  have g := DGet.k (k := (Sum.inl (k : Int) : L2.Key)) h3
  rw [hv] at g
  exact ⟨p, _, rfl, g, q R3 _ H3 _ _ ⟨rfl, rfl⟩ I3 (n2.trans n3) (.int _)⟩
end
end PL
set_option maxHeartbeats 4000000
namespace PL
open PySem PySem.Spec PyProof.Rows L2 RZ
/-- the scope of the comprehension in a statement of a def, by its place (a row of places, into bodies) -/
def lcScope : Expr → Scope
  | .ListComp _ _ sc _ => sc
  | _ => { kind := .function, names := [], isGenerator := false, isCoroutine := false }
def stExpr : Stmt → Expr
  | .Assign _ v _ => v
  | .Return (some v) _ => v
  | .Expr v _ => v
  | .If c _ _ _ => c
  | _ => .Constant .none 0 ⟨0, 0, 0, 0⟩
def stBody : Stmt → List Stmt
  | .FunctionDef _ _ b _ _ _ _ _ _ _ => b
  | .For _ _ b _ _ => b
  | .If _ b _ _ => b
  | _ => []
def stAt : List Nat → Stmt → Stmt
  | [], s => s
  | i :: r, s => stAt r ((stBody s).getD i (.Pass ⟨0, 0, 0, 0⟩))
def scAt (is : List Nat) (s : Stmt) : Scope := lcScope (stExpr (stAt is s))
/-- the places of a row with a rest, as the law lists them -/
def plsT (p t n : Nat) : List Nat := (List.range (n + 1)).filter fun j => decide (C n j % p = t)
theorem plsT_head (p t n : Nat) : (plsT p t n)[0]? = rowF p t n := by
  unfold plsT rowF
  rw [← List.head?_eq_getElem?, List.head?_filter]
theorem plsT_nil {p t n : Nat} : (plsT p t n).isEmpty = (rowF p t n).isNone := by
  rw [← plsT_head]
  cases plsT p t n <;> rfl
theorem IsF.row {p t m n s : Nat} (h : IsF p t m n s) : rowF p t n = some s := rowF_some.mpr ⟨h.sn, h.at_, h.no⟩
theorem IsF.ahead {p t m n s l : Nat} (h : IsF p t m n s) (h1 : m ≤ l) (h2 : l < n) : rowF p t l = none := rowF_none.mpr (h.rows l h1 h2)
/-- block by block -/
theorem shL_sign {p : Nat} (hp : Pr p) {w h n i c : Nat} (hw : w = p ^ h) (hi : i ≤ n) (hc : (shL p n)[i]? = some c) (h35 : c = 35) : (shL p (n % w) ++ List.replicate w 46)[i % w]? = some 35 := by
  subst hw h35
  have h2 := Pr_two hp
  have hw : 0 < p ^ h := Nat.pow_pos (by omega)
  have e1 : C n i % p ≠ 0 := by
    unfold shL at hc
    rw [List.getElem?_map, rwL_get hi] at hc
    intro z
    rw [z] at hc
    cases hc
  have e2 := lucas_pow hp (n / p ^ h) (i / p ^ h) h (n % p ^ h) (i % p ^ h) (Nat.mod_lt _ hw) (Nat.mod_lt _ hw)
  rw [Nat.mul_comm, Nat.div_add_mod, Nat.mul_comm (i / p ^ h), Nat.div_add_mod] at e2
  rw [e2] at e1
  have e3 : C (n % p ^ h) (i % p ^ h) % p ≠ 0 := fun z => e1 ((Pr_mul0 hp).mpr (.inr z))
  have e4 : i % p ^ h ≤ n % p ^ h := by
    by_cases g : i % p ^ h ≤ n % p ^ h
    · exact g
    · exact absurd (by rw [C_gt (by omega)]; exact Nat.zero_mod _) e3
  rw [List.getElem?_append_left (by rw [shL_len]; omega)]
  unfold shL
  rw [List.getElem?_map, rwL_get e4]
  show some (sg _) = _
  unfold sg
  rw [if_neg e3]
def dueK (p : Nat) (z : Int) (m : Nat) : PyData := if 0 ≤ z ∧ z < (p : Int) then pairD (fw p z.toNat m) else .str "NoRest"
def moK (p : Nat) : Nat := if p = 2 then 7 else if p = 3 then 5 else if p = 5 then 4 else 3
end PL
set_option maxHeartbeats 4000000
/-! how often the prime divides so many numbers of a row, by figures -/
namespace PL
open PySem RZ
abbrev Q2 := Nat × Nat
def bw (p n m k : Nat) : Nat := if n % p ^ m < k % p ^ m then 1 else 0
def tm (p n : Nat) : Nat → Nat → Nat
  | 0, _ => 0
  | m + 1, k => tm p n m k + bw p n (m + 1) k
def st (p n m k : Nat) : Q2 := (bw p n m k, tm p n m k)
def dg (f u : Nat) (q : Q2) : Nat := if f < u + q.1 then 1 else 0
def nx (f u : Nat) (q : Q2) : Q2 := (dg f u q, q.2 + dg f u q)
theorem bw_le (p n m k : Nat) : bw p n m k ≤ 1 := by unfold bw; split <;> omega
theorem dg_le (f u : Nat) (q : Q2) : dg f u q ≤ 1 := by unfold dg; split <;> omega
theorem tm_le (p n : Nat) : ∀ m k, tm p n m k ≤ m
  | 0, _ => Nat.le_refl _
  | m + 1, k => by
    have := tm_le p n m k
    have := bw_le p n (m + 1) k
    show tm p n m k + bw p n (m + 1) k ≤ _
    omega
theorem mod_low {p m i u k : Nat} (h : i ≤ m) : (u * p ^ m + k) % p ^ i = k % p ^ i := by
  obtain ⟨d, rfl⟩ := Nat.exists_eq_add_of_le h
  rw [Nat.pow_add, Nat.mul_comm (p ^ i), ← Nat.mul_assoc, Nat.mul_comm (u * p ^ d), Nat.mul_add_mod]
theorem bw_low {p n m i u k : Nat} (h : i ≤ m) : bw p n i (u * p ^ m + k) = bw p n i k := by
  unfold bw; rw [mod_low h]
theorem tm_low {p n m u k : Nat} : ∀ i, i ≤ m → tm p n i (u * p ^ m + k) = tm p n i k
  | 0, _ => rfl
  | i + 1, h => by
    show tm p n i _ + bw p n (i + 1) _ = tm p n i k + bw p n (i + 1) k
    rw [tm_low i (by omega), bw_low h]
theorem cmp_step {q x y f u : Nat} (hx : x < q) (hy : y < q) : (x + q * f < u * q + y) ↔ f < u + (if x < y then 1 else 0) := by
  rw [Nat.mul_comm u q]
  rcases Nat.lt_trichotomy f u with h | h | h
  · have : q * (f + 1) ≤ q * u := Nat.mul_le_mul_left q h
    rw [Nat.mul_add, Nat.mul_one] at this
    constructor
    · intro _; omega
    · intro _; omega
  · subst h
    by_cases g : x < y
    · rw [if_pos g]; constructor <;> intro _ <;> omega
    · rw [if_neg g]; constructor <;> intro _ <;> omega
  · have : q * (u + 1) ≤ q * f := Nat.mul_le_mul_left q h
    rw [Nat.mul_add, Nat.mul_one] at this
    constructor
    · intro _; omega
    · intro w
      exfalso
      split at w <;> omega
theorem st_step {p n m k u : Nat} (hp : 2 ≤ p) (hk : k < p ^ m) (hu : u < p) : st p n (m + 1) (u * p ^ m + k) = nx (n / p ^ m % p) u (st p n m k) := by
  have hq : 0 < p ^ m := Nat.pow_pos (by omega)
  have e1 : bw p n (m + 1) (u * p ^ m + k) = dg (n / p ^ m % p) u (st p n m k) := by
    unfold bw dg st
    have hlt : u * p ^ m + k < p ^ (m + 1) := by
      have : (u + 1) * p ^ m ≤ p * p ^ m := Nat.mul_le_mul_right _ hu
      rw [Nat.pow_succ, Nat.mul_comm (p ^ m) p]
      rw [Nat.succ_mul] at this
      omega
    rw [Nat.mod_eq_of_lt hlt, Nat.pow_succ, mod_step]
    have := cmp_step (f := n / p ^ m % p) (u := u) (Nat.mod_lt n hq) hk
    show (if _ then 1 else 0) = (if n / p ^ m % p < u + bw p n m k then 1 else 0)
    unfold bw
    rw [Nat.mod_eq_of_lt hk]
    by_cases g : n % p ^ m + p ^ m * (n / p ^ m % p) < u * p ^ m + k
    · rw [if_pos g, if_pos (this.mp g)]
    · rw [if_neg g, if_neg fun w => g (this.mpr w)]
  show (bw p n (m + 1) _, tm p n m _ + bw p n (m + 1) _) = _
  rw [e1, tm_low m (Nat.le_refl _)]
  rfl
/-! of a number of choices -/
theorem borrow_carry {q k n : Nat} (hq : 0 < q) (hk : k ≤ n) : q ≤ k % q + (n - k) % q ↔ n % q < k % q := by
  have h1 := Nat.mod_lt k hq
  have h2 := Nat.mod_lt (n - k) hq
  have e : n % q = (k % q + (n - k) % q) % q := by rw [← Nat.add_mod, Nat.add_sub_cancel' hk]
  constructor
  · intro h
    rw [e, Nat.mod_eq_sub_mod h, Nat.mod_eq_of_lt (by omega)]
    omega
  · intro h
    rcases Nat.lt_or_ge (k % q + (n - k) % q) q with g | g
    · rw [Nat.mod_eq_of_lt g] at e; omega
    · exact g
theorem tm_carries {p n k : Nat} (hp : 2 ≤ p) (hk : k ≤ n) : ∀ m, tm p n m k = (cyR p m k (n - k)).length
  | 0 => rfl
  | m + 1 => by
    rw [cyR_succ, List.length_append, ← tm_carries hp hk m]
    show _ + bw p n (m + 1) k = _
    congr 1
    unfold bw cyB
    have := borrow_carry (q := p ^ (m + 1)) (Nat.pow_pos (by omega)) hk
    by_cases g : n % p ^ (m + 1) < k % p ^ (m + 1)
    · rw [if_pos g, decide_eq_true (this.mpr g)]; rfl
    · rw [if_neg g, decide_eq_false fun w => g (this.mp w)]; rfl
theorem tm_vp {p n k L : Nat} (hp : Pr p) (hk : k ≤ n) (hL : n < p ^ L) : tm p n L k = vp p (C n k) := by
  have h2 := Pr_two hp
  have e := kummer hp k (n - k)
  rw [Nat.add_sub_cancel' hk] at e
  rw [tm_carries h2 hk, cyR_eq h2 (by rw [Nat.add_sub_cancel' hk]; exact hL), e]
/-! sums -/
theorem sum_app (a b : List Nat) : (a ++ b).sum = a.sum + b.sum := List.sum_append
theorem sum_block (g : Nat → Nat) (q : Nat) : ∀ p, ((List.range (p * q)).map g).sum = ((List.range p).map fun u => ((List.range q).map fun k => g (u * q + k)).sum).sum
  | 0 => by rw [Nat.zero_mul]; rfl
  | p + 1 => by
    rw [Nat.succ_mul, map_range_add, sum_app, sum_block g q p, List.range_succ, List.map_append, sum_app]
    simp
def cS (p n m : Nat) (q : Q2) : Nat := ((List.range (p ^ m)).map fun k => if st p n m k = q then 1 else 0).sum
theorem cS_step {p n m : Nat} (hp : 2 ≤ p) (q : Q2) : cS p n (m + 1) q = ((List.range p).map fun u => ((List.range (p ^ m)).map fun k => if nx (n / p ^ m % p) u (st p n m k) = q then 1 else 0).sum).sum := by
  unfold cS
  rw [Nat.pow_succ, Nat.mul_comm (p ^ m) p, sum_block]
  congr 1
  refine List.map_congr_left fun u hu => ?_
  congr 1
  refine List.map_congr_left fun k hk => ?_
  rw [st_step hp (List.mem_range.mp hk) (List.mem_range.mp hu)]
/-- put together by codes -/
theorem sum_one {φ : Nat → Nat} {c w : Nat} : ∀ N, c < N → ((List.range N).map fun i => φ i * (if c = i then w else 0)).sum = φ c * w
  | N + 1, h => by
    rw [List.range_succ, List.map_append, sum_app]
    by_cases g : c = N
    · subst g
      have z : ((List.range c).map fun i => φ i * (if c = i then w else 0)).sum = 0 := by
        rw [show (List.range c).map (fun i => φ i * (if c = i then w else 0)) = (List.range c).map fun _ => 0 from List.map_congr_left fun i hi => by
          have := List.mem_range.mp hi
          rw [if_neg (by omega), Nat.mul_zero]]
        clear h
        generalize List.range c = l
        induction l with
        | nil => rfl
        | cons a r ih => rw [List.map_cons, List.sum_cons, ih]
      rw [z]; simp
    · rw [sum_one N (by omega)]; simp [g]
theorem sum_add {α : Type} (l : List α) (f g : α → Nat) : (l.map fun x => f x + g x).sum = (l.map f).sum + (l.map g).sum := by
  induction l with
  | nil => rfl
  | cons a r ih => rw [List.map_cons, List.map_cons, List.map_cons, List.sum_cons, List.sum_cons, List.sum_cons, ih]; omega
theorem sum_codes {α : Type} {φ : Nat → Nat} {c w : α → Nat} {N : Nat} : ∀ (l : List α), (∀ x ∈ l, c x < N) → (l.map fun x => φ (c x) * w x).sum = ((List.range N).map fun i => φ i * (l.map fun x => if c x = i then w x else 0).sum).sum
  | [], _ => by
    simp only [List.map_nil, List.sum_nil, Nat.mul_zero]
    generalize List.range N = l
    induction l with
    | nil => rfl
    | cons a r ih => rw [List.map_cons, List.sum_cons, ← ih, Nat.add_zero]
  | a :: r, h => by
    rw [List.map_cons, List.sum_cons, sum_codes r fun x hx => h x (List.mem_cons_of_mem _ hx), ← sum_one N (h a List.mem_cons_self), ← sum_add]
    congr 1
    refine List.map_congr_left fun i _ => ?_
    rw [List.map_cons, List.sum_cons, Nat.mul_add]
def cd (q : Q2) : Nat := 2 * q.2 + q.1
def dc (i : Nat) : Q2 := (i % 2, i / 2)
theorem dc_cd {q : Q2} (h : q.1 ≤ 1) : dc (cd q) = q := by
  obtain ⟨b, t⟩ := q
  have h : b ≤ 1 := h
  show ((2 * t + b) % 2, (2 * t + b) / 2) = (b, t)
  have e1 : (2 * t + b) % 2 = b := by omega
  have e2 : (2 * t + b) / 2 = t := by omega
  rw [e1, e2]
theorem cd_inj {q r : Q2} (hq : q.1 ≤ 1) (hr : r.1 ≤ 1) : cd q = cd r ↔ q = r := ⟨fun h => by rw [← dc_cd hq, ← dc_cd hr, h], fun h => by rw [h]⟩
/-! the table that the program keeps -/
abbrev AL := List (Q2 × Nat)
def lk (al : AL) (q : Q2) : Nat := (al.map fun e => if e.1 = q then e.2 else 0).sum
structure GA (m : Nat) (al : AL) : Prop where
  nd : (al.map (·.1)).Nodup
  le : ∀ e ∈ al, e.1.1 ≤ 1 ∧ e.1.2 ≤ m
theorem group_eq {p n m : Nat} {al : AL} (ga : GA m al) (h : ∀ q, lk al q = cS p n m q) (ψ : Q2 → Nat) : (al.map fun e => ψ e.1 * e.2).sum = ((List.range (p ^ m)).map fun k => ψ (st p n m k)).sum := by
  have a1 := sum_codes (φ := fun i => ψ (dc i)) (c := fun e : Q2 × Nat => cd e.1) (w := fun e => e.2) (N := 2 * (m + 1)) al fun e he => by
    have := ga.le e he
    show 2 * e.1.2 + e.1.1 < _
    omega
  have a2 := sum_codes (φ := fun i => ψ (dc i)) (c := fun k => cd (st p n m k)) (w := fun _ => 1) (N := 2 * (m + 1)) (List.range (p ^ m)) fun k _ => by
    have := bw_le p n m k
    have := tm_le p n m k
    show 2 * tm p n m k + bw p n m k < _
    omega
  have e1 : (al.map fun e => ψ (dc (cd e.1)) * e.2) = al.map fun e => ψ e.1 * e.2 := List.map_congr_left fun e he => by rw [dc_cd (ga.le e he).1]
  have e2 : ((List.range (p ^ m)).map fun k => ψ (dc (cd (st p n m k))) * 1) = (List.range (p ^ m)).map fun k => ψ (st p n m k) := List.map_congr_left fun k _ => by rw [dc_cd (bw_le _ _ _ _), Nat.mul_one]
  rw [e1] at a1
  rw [e2] at a2
  rw [a1, a2]
  congr 1
  refine List.map_congr_left fun i _ => ?_
  congr 1
  have h1 : (al.map fun e => if cd e.1 = i then e.2 else 0) = al.map fun e => if e.1 = dc i then e.2 else 0 := List.map_congr_left fun e he => by
    have hc : cd (dc i) = i := by show 2 * (i / 2) + i % 2 = i; omega
    have : cd e.1 = i ↔ e.1 = dc i := by
      have := cd_inj (q := e.1) (r := dc i) (ga.le e he).1 (by show i % 2 ≤ 1; omega)
      rw [hc] at this; exact this
    by_cases g : e.1 = dc i
    · rw [if_pos (this.mpr g), if_pos g]
    · rw [if_neg fun w => g (this.mp w), if_neg g]
  have h2 : ((List.range (p ^ m)).map fun k => if cd (st p n m k) = i then 1 else 0) = (List.range (p ^ m)).map fun k => if st p n m k = dc i then 1 else 0 := List.map_congr_left fun k _ => by
    have hc : cd (dc i) = i := by show 2 * (i / 2) + i % 2 = i; omega
    have : cd (st p n m k) = i ↔ st p n m k = dc i := by
      have := cd_inj (q := st p n m k) (r := dc i) (bw_le _ _ _ _) (by show i % 2 ≤ 1; omega)
      rw [hc] at this; exact this
    by_cases g : st p n m k = dc i
    · rw [if_pos (this.mpr g), if_pos g]
    · rw [if_neg fun w => g (this.mp w), if_neg g]
  rw [h1, h2]
  exact h (dc i)
end PL
set_option maxHeartbeats 4000000
/-! dicts with tuple keys that a function owns -/
namespace PL
open PySem PySem.Spec PyProof.Rows L2 RZ
/-! a display of one pair, its key a tuple -/
def tDispT (tk tv : TE) : TE := fun σ H Q => ∀ p, H p = none → tk σ (upd H p (.dT [])) fun y H1 => tv σ H1 fun z H2 => ∃ q ks, y = .ref q ∧ H2 q = some (.tup (List.map kV ks)) ∧ H2 p = some (.dT []) ∧ Q (.ref p) (upd H2 p (.dT (putK [] ks z)))
theorem pe_dispT {X : Cx} {k v : Expr} {tk tv : TE} {pos : Pos} (hu : X.A.units + 1 < cLine) (hk : PE X k tk) (hv : PE X v tv) : PE X (.Dict [some k] [v] pos) (tDispT tk tv) := by
  refine ⟨fun pins s σ H Q I h => ?_⟩
  have hn := I.hok.fresh (Nat.le_refl s.heap.objs.size)
  have I1 := I.laid (a := s.heap.objs.size) (o := .dT []) (h' := s.heap.push { cls := .type "dict", data := .dict #[] }) (t' := s.toks) (fun _ _ q => Heap.get?_push_of_some _ q) (Nat.le_refl _) (dt_empty s.heap I.big)
  refine wpAny_Dict_any rfl rfl (by simp) (by show 1 ≤ 15; decide) ?_
  refine pairTrees_cons_walk (thn (hk.run pins _ σ _ _ I1 (h _ hn)) fun u s2 ⟨y, H2, I2, ry, q2⟩ => thn (hv.run pins s2 σ H2 _ I2 q2) fun w s3 ⟨z, H3, I3, rz, q, ks, ey, hq, hp, q3⟩ => pairTrees_nil_walk ?_)
  subst ey
  cases (show u = Value.ref q from ry)
  obtain ⟨_, hd, xs, rel, dd⟩ := dt_of I3.hok hp
  cases rel
  have hl : (putK ([] : List (List Key × V)) ks z).length ≤ sizeLine := by
    have := length_putK ([] : List (List Key × V)) ks z
    rw [List.length_nil] at this
    rw [sizeLine_eq]; omega
  show wpAny (model X.prog X.w) X.A (storeAll s.heap.objs.size [(.ref q, w)]) _ _ s3
  unfold storeAll
  rw [List.forIn_cons]
  refine wpAny_bind (wpAny_bind (wpAny_dictSet_heap (hsz := by rw [sizeLine_eq]; simp) (show (tupleKind (mixKind X.prog X.w)).room X.A from Nat.lt_of_le_of_lt (Nat.le_succ _) hu) (key_of I3.hok hq) dd fun h' dd' hs => wpAny_pure ?_))
  show wpAny _ _ (forIn ([] : List (Value × Value)) PUnit.unit _) _ _ _
  rw [List.forIn_nil]
  refine wpAny_pure ?_
  obtain ⟨o, es, ep, ho, h2, h3, h4, _, h5⟩ := dd'
  refine ⟨.ref s.heap.objs.size, _, d_write (ob := .dT (putK [] ks z)) I3 (by rw [hp]; exact True.intro) hs ⟨o, ho⟩ ⟨hl, hd, _, (KT.put (.nil) ks hq rz).keeps fun c ys ec => ?_, o, es, ep, ho, h2, h3, h4, h5⟩, rfl, q3⟩
  rw [upd_ne (ne_of ec hp (fun z => nomatch z))]
  exact ec
/-! what a function owns beside its data -/
abbrev rD (a : Nat) : PyData := .dict [(.int (a : Int), .none)]
theorem rp_rD {K : PySem.W.Frag} {R : Hp} {v : V} {a : Nat} (h : Rp K R v (rD a)) : v = .ref a := by
  generalize hd : rD a = d at h
  cases h with
  | rf =>
    injection hd with h1
    injection h1 with h2
    injection h2 with h3
    injection h3 with h4
    have : (a : Int) = _ := h4
    have := Int.ofNat.inj this
    rw [this]
  | ptu _ _ => cases hd
  | non => cases hd
  | bl b => cases hd
  | int b => cases hd
  | str b => cases hd
  | lst q r => cases hd
  | tup q r => cases hd
abbrev Hf := List (Addr × HO)
structure Own1 (T : Option Addr) (B : Bs) (R H : Hp) (q : Addr × HO) : Prop where
  at_ : H q.1 = some q.2
  r : R q.1 = none
  b : B.H0 q.1 = none
  t : T ≠ some q.1
  m : ∀ xs, q.2 ≠ .lst xs
structure Own (T : Option Addr) (B : Bs) (R H : Hp) (hf : Hf) : Prop where
  all : ∀ q ∈ hf, Own1 T B R H q
  nd : (hf.map (·.1)).Nodup
theorem Own.after {T : Option Addr} {B : Bs} {R H R1 H1 : Hp} {hf : Hf} (h : Own T B R H hf) (n : Nx T R H R1 H1) : Own T B R1 H1 hf :=
  ⟨fun q hq => let o := h.all q hq; ⟨n.lx _ _ o.t o.at_, n.av _ o.t (by rw [o.at_]; simp) o.r, o.b, o.t, o.m⟩, h.nd⟩
theorem Own.tail {T : Option Addr} {B : Bs} {R H : Hp} {q : Addr × HO} {hf : Hf} (h : Own T B R H (q :: hf)) : Own T B R H hf :=
  ⟨fun x hx => h.all x (List.mem_cons_of_mem _ hx), (List.nodup_cons.mp (show (q.1 :: hf.map (·.1)).Nodup from h.nd)).2⟩
theorem Own.swap {T : Option Addr} {B : Bs} {R H : Hp} {q r : Addr × HO} {hf : Hf} (h : Own T B R H (q :: r :: hf)) : Own T B R H (r :: q :: hf) := by
  refine ⟨fun x hx => h.all x ?_, ?_⟩
  · simp only [List.mem_cons] at hx ⊢
    rcases hx with e | e | e
    · exact .inr (.inl e)
    · exact .inl e
    · exact .inr (.inr e)
  · have h := h.nd
    simp only [List.map_cons, List.nodup_cons, List.mem_cons, not_or] at h ⊢
    exact ⟨⟨fun e => h.1.1 e.symm, h.2.1⟩, h.1.2, h.2.2⟩
/-- the first owned thing is changed -/
theorem Own.upd {T : Option Addr} {B : Bs} {R H : Hp} {a : Addr} {o o' : HO} {hf : Hf} (h : Own T B R H ((a, o) :: hf)) (hm : ∀ xs, o' ≠ .lst xs) : Own T B R (L2.upd H a o') ((a, o') :: hf) := by
  have hn := List.nodup_cons.mp (show (a :: hf.map (·.1)).Nodup from h.nd)
  have h0 := h.all (a, o) List.mem_cons_self
  refine ⟨fun x hx => ?_, h.nd⟩
  rcases List.mem_cons.mp hx with e | e
  · subst e
    exact ⟨upd_same, h0.r, h0.b, h0.t, hm⟩
  · have h1 := h.all x (List.mem_cons_of_mem _ e)
    have hne : x.1 ≠ a := fun z => hn.1 (by rw [← z]; exact List.mem_map_of_mem e)
    exact ⟨by rw [upd_ne hne]; exact h1.at_, h1.r, h1.b, h1.t, h1.m⟩
theorem HS.updO {K : PySem.W.Frag} {B : Bs} {T : Option Addr} {S : Sta} {R H : Hp} {σ : L2.St} {a : Addr} {o o' : HO} (h : HS K B T S R σ H) (w : Own1 T B R H (a, o)) : HS K B T S R σ (L2.upd H a o') := by
  have hne : ∀ b, R b ≠ none → b ≠ a := fun b hb e => hb (by rw [e]; exact w.r)
  refine ⟨h.le.muts w.r, ⟨fun b u nt hb => ?_, h.n.lr, h.n.av⟩, fun t e => ?_, h.len, fun i s e => ?_, h.sep⟩
  · have : b ≠ a := fun e => by subst e; rw [w.b] at hb; cases hb
    rw [upd_ne this]
    exact h.n.lx b u nt hb
  · obtain ⟨r, zs, q, z⟩ := h.tw t e
    exact ⟨r, zs, by rw [upd_ne fun z => w.t (by rw [e, z])]; exact q, z⟩
  · obtain ⟨v, f1, f2⟩ := h.sl i s e
    refine ⟨v, f1, ?_⟩
    cases s with
    | mu ds =>
      obtain ⟨b, xs, g1, g2, g3⟩ := f2
      have : b ≠ a := fun z => by
        subst z
        rw [w.at_] at g2
        exact w.m xs (Option.some.inj g2)
      exact ⟨b, xs, g1, by rw [upd_ne this]; exact g2, g3⟩
    | dat d => exact f2
    | town => exact f2
    | scr ns => exact f2
theorem HS.based {K : PySem.W.Frag} {B : Bs} {T : Option Addr} {S : Sta} {R H : Hp} {σ : L2.St} (h : HS K B T S R σ H) : HS K ⟨R, B.H0⟩ T S R σ H :=
  ⟨h.le, ⟨h.n.lx, Le.refl R, fun a _ _ hr => hr⟩, h.tw, h.len, h.sl, h.sep⟩
theorem HS.unbased {K : PySem.W.Frag} {B : Bs} {T : Option Addr} {S : Sta} {R R1 H H1 : Hp} {σ : L2.St} (n : Nx T B.R0 B.H0 R1 H1) (h : HS K ⟨R1, B.H0⟩ T S R σ H) : HS K B T S R σ H :=
  ⟨h.le, ⟨h.n.lx, n.lr.trans h.n.lr, fun a t ha hr => h.n.av a t ha (n.av a t ha hr)⟩, h.tw, h.len, h.sl, h.sep⟩
structure KO where
  nx : Sta → Hf → Prop
  rt : PyData → Nat → Prop
structure LiftO (K : PySem.W.Frag) (B : Bs) (T : Option Addr) (k : KO) (D : Ends) : Prop where
  nx : ∀ S hf R σ H, k.nx S hf → HS K B T S R σ H → Own T B R H hf → D.nx σ H
  rt : ∀ R v H d b, k.rt d b → Le R H → Nx T B.R0 B.H0 R H → TwE T b R H → Rp K R v d → D.rt v H
def RunO (X : Cx) (T : Option Addr) (sts : List Stmt) (S : Sta) (hf : Hf) (k : KO) : Prop := ∀ (B : Bs) (R : Hp) (σ : L2.St) (H : Hp), HS X.K B T S R σ H → Own T B R H hf → ∀ D : Ends, LiftO X.K B T k D → wpSs X sts D σ H
/-- an expression that reads owned things -/
def EvH (X : Cx) (T : Option Addr) (e : Expr) (S : Sta) (hf : Hf) (d : PyData) : Prop := ∀ (B : Bs) (R : Hp) (σ : L2.St) (H : Hp), HE X.K T S R σ H → Own T B R H hf → ∀ Q : VK,
  (∀ R' v H', HE X.K T S R' σ H' → Nx T R H R' H' → Rp X.K R' v d → Q v H') → wpE X e σ H Q
section
variable {X : Cx} {T : Option Addr} {S : Sta} {hf : Hf} {k : KO} {e a b c f o tg : Expr} {es : List Expr} {st : Stmt} {rest body oth : List Stmt} {pos pos' apos : Pos} {d d1 d2 : PyData} {κ : PyData → Nat → Prop}
theorem run_own {k : KD} (h : RunO X T rest S [] ⟨fun _ _ => False, k.rt⟩) : Run X T rest S k := fun B R σ H I D L =>
  h B R σ H I ⟨fun q hq => (nomatch hq), List.nodup_nil⟩ D ⟨fun _ _ _ _ _ z => z.elim, L.rt⟩
theorem runo_nil (h : k.nx S hf) : RunO X T [] S hf k := fun B R σ H I O D L => wpSs_of pss_nil (L.nx S hf R σ H h I O)
theorem evo_of (h : EvP X T e S d) : EvH X T e S hf d := fun B R σ H I O Q q => h R σ H I Q fun R1 v H1 d' b ⟨e1, e2⟩ I1 n1 r1 => by
  subst e1 e2
  exact q R1 v H1 I1 n1 r1
theorem evo_bin {op : Operator} (ha : EvH X T a S hf d1) (hb : EvH X T b S hf d2) (hop : OpD X T (binaryOp op) d1 d2 d) : EvH X T (.BinOp a op b pos) S hf d := fun B R σ H I O Q q => by
  intro pins s J
  refine wpAny_BinOp (thn (ha B R σ H I O (fun v H1 => wpE X b σ H1 fun u H2 => ∃ r, OpR X (binaryOp op) r ∧ r v u H2 Q) (fun R1 v H1 I1 n1 r1 => ?_) pins s J) fun v s1 ⟨x', H1, J1, rv, w1⟩ => ?_)
  · refine hb B R1 σ H1 I1 (O.after n1) _ fun R2 u H2 I2 n2 r2 => ?_
    exact hop _ R2 σ H2 v u Q I2 (r1.le n2.lr) r2 fun R3 c H3 I3 n3 r3 => q R3 c H3 I3 ((n1.trans n2).trans n3) r3
  · refine thn (w1 pins s1 J1) fun u s2 ⟨y', H2, J2, ru, w2⟩ => ?_
    obtain ⟨r, o, w2⟩ := w2
    exact o pins s2 σ H2 x' y' v u Q J2 rv ru w2
/-! keys of two numbers -/
abbrev ek (q : Q2) : List L2.Key := [.inl (q.1 : Int), .inl (q.2 : Int)]
abbrev qT (q : Q2) : HO := .tup [V.int (q.1 : Int), V.int (q.2 : Int)]
theorem qT_ek (q : Q2) : qT q = .tup (List.map kV (ek q)) := rfl
def encA (al : AL) : List (List L2.Key × V) := al.map fun e => (ek e.1, V.int (e.2 : Int))
abbrev dH (al : AL) : HO := .dT (encA al)
theorem ek_inj {q r : Q2} (h : ek q = ek r) : q = r := by
  obtain ⟨b, t⟩ := q
  obtain ⟨b', t'⟩ := r
  simp only [List.cons.injEq, Sum.inl.injEq, and_true] at h
  have h1 : b = b' := by have := h.1; omega
  have h2 : t = t' := by have := h.2; omega
  rw [h1, h2]
def getA (al : AL) (q : Q2) : Nat := ((al.find? fun e => decide (e.1 = q)).map (·.2)).getD 0
def putA (al : AL) (q : Q2) (v : Nat) : AL := if (al.any fun e => decide (e.1 = q)) = true then al.map (fun e => if e.1 = q then (e.1, v) else e) else al ++ [(q, v)]
theorem dec_ek (q r : Q2) : decide (ek q = ek r) = decide (q = r) := by
  by_cases h : q = r
  · subst h; simp
  · rw [decide_eq_false h, decide_eq_false fun w => h (ek_inj w)]
theorem valV_enc (q : Q2) : ∀ al : AL, valV (encA al) (ek q) = ((al.find? fun e => decide (e.1 = q)).map fun e => V.int (e.2 : Int))
  | [] => rfl
  | e :: r => by
    have ih := valV_enc q r
    unfold encA at ih ⊢
    rw [List.map_cons]
    by_cases h : e.1 = q
    · subst h
      rw [valV_pos rfl, List.find?_cons_of_pos (by simp)]; rfl
    · rw [valV_neg fun w => h (ek_inj w), ih, List.find?_cons_of_neg (by simpa using h)]
theorem getD_enc (al : AL) (q : Q2) : (valV (encA al) (ek q)).getD (V.int ((0 : Nat) : Int)) = V.int (getA al q : Int) := by
  rw [valV_enc]
  unfold getA
  cases al.find? fun e => decide (e.1 = q) <;> rfl
theorem putK_enc (al : AL) (q : Q2) (v : Nat) : putK (encA al) (ek q) (V.int (v : Int)) = encA (putA al q v) := by
  have e : ((encA al).any fun kv => decide (kv.1 = ek q)) = al.any fun e => decide (e.1 = q) := by
    unfold encA
    rw [List.any_map]
    congr 1
    funext x
    exact dec_ek x.1 q
  unfold putK putA
  rw [e]
  by_cases g : (al.any fun e => decide (e.1 = q)) = true
  · rw [if_pos g, if_pos g]
    unfold encA
    rw [List.map_map, List.map_map]
    refine List.map_congr_left fun x _ => ?_
    show (if ek x.1 = ek q then (ek x.1, V.int (v : Int)) else (ek x.1, V.int (x.2 : Int))) = _
    show _ = (fun e : Q2 × Nat => (ek e.1, V.int (e.2 : Int))) (if x.1 = q then (x.1, v) else x)
    by_cases h : x.1 = q
    · rw [if_pos (by rw [h]), if_pos h]
    · rw [if_neg fun w => h (ek_inj w), if_neg h]
  · rw [if_neg g, if_neg g]
    unfold encA
    rw [List.map_append]; rfl
theorem encA_len (al : AL) : (encA al).length = al.length := List.length_map ..
/-! reading -/
theorem evo_ref {a : Addr} (h : EvP X T e S (rD a)) : ∀ (R : Hp) (σ : L2.St) (H : Hp), HE X.K T S R σ H → ∀ Q : VK, (∀ R' H', HE X.K T S R' σ H' → Nx T R H R' H' → Q (.ref a) H') → wpE X e σ H Q := fun R σ H I Q q =>
  h R σ H I Q fun R1 v H1 d' b ⟨e1, e2⟩ I1 n1 r1 => by
    subst e1 e2
    rw [rp_rD r1]
    exact q R1 H1 I1 n1
theorem rd_own {B : Bs} {R H : Hp} {a : Addr} {al : AL} (O : Own T B R H hf) (ha : (a, dH al) ∈ hf ∨ ∃ od, (a, .frz od (dH al)) ∈ hf) : Rd H a (dH al) := by
  rcases ha with ha | ⟨od, ha⟩
  · exact .inl (O.all _ ha).at_
  · exact .inr ⟨od, (O.all _ ha).at_⟩
/-- d[(x, y)] -/
theorem evo_ixT {a : Addr} {al : AL} {q : Q2} {v : Nat} {j : Nat} (hu : X.A.units + 1 < cLine) (hd : EvP X T e S (rD a)) (ha : (a, dH al) ∈ hf ∨ ∃ od, (a, .frz od (dH al)) ∈ hf) (hk : EvAP X T es S [nD q.1, nD q.2])
    (hv : (al.find? fun e => decide (e.1 = q)).map (·.2) = some v) (hs : NoSl (.Tuple es j pos') := by exact fun _ _ => rfl) : EvH X T (.Subscript e (.Tuple es j pos') pos) S hf (nD v) := fun B R σ H I O Q c =>
  wpE_of (pe_dget hu pe_wp (pe_tup pa_wp) hs) (evo_ref hd R σ H I _ fun R1 H1 I1 n1 => hk R1 σ H1 I1 _ fun R2 vs H2 ds b ⟨e1, e2⟩ I2 n2 r2 => by
    subst e1 e2
    obtain ⟨w1, w2, rfl, z1, z2⟩ := r2.two
    cases z1; cases z2
    refine ⟨by rw [sizeLine_eq]; simp, fun p hp => ?_⟩
    have O2 := O.after (n1.trans n2)
    have n3 := (n1.trans n2).trans (Nx.laid (o := qT q) hp)
    have O3 := O.after n3
    have hr := rd_own O3 ha
    refine ⟨a, V.int (v : Int), rfl, .inr ⟨encA al, ek q, p, hr, rfl, upd_same, ?_⟩, c R2 _ _ (I2.laid hp) n3 (.int _)⟩
    rw [valV_enc]
    cases hf : al.find? fun e => decide (e.1 = q) with
    | none => rw [hf] at hv; cases hv
    | some x =>
      rw [hf] at hv
      have : x.2 = v := Option.some.inj hv
      rw [← this]; rfl)
/-- d.get((x, y), 0) -/
theorem evo_get2T {a : Addr} {al : AL} {q : Q2} {j : Nat} (hu : X.A.units + 1 < cLine) (hd : EvP X T o S (rD a)) (ha : (a, dH al) ∈ hf ∨ ∃ od, (a, .frz od (dH al)) ∈ hf) (hk : EvAP X T es S [nD q.1, nD q.2]) (hz : EvP X T f S (nD 0))
    (m : M2 X o "get" apos (.Tuple es j pos') f pos) : EvH X T (.Call (.Attribute o "get" apos) [.Tuple es j pos', f] [] pos) S hf (nD (getA al q)) := fun B R σ H I O Q c =>
  wpE_of (pe_dget2 hu pe_wp (pe_tup pa_wp) pe_wp m) (evo_ref hd R σ H I _ fun R1 H1 I1 n1 => ⟨a, rfl, .inr ⟨encA al, rd_own (O.after n1) ha⟩, hk R1 σ H1 I1 _ fun R2 vs H2 ds b ⟨e1, e2⟩ I2 n2 r2 => by
    subst e1 e2
    obtain ⟨w1, w2, rfl, z1, z2⟩ := r2.two
    cases z1; cases z2
    refine ⟨by rw [sizeLine_eq]; simp, fun p hp => ?_⟩
    have n3 := (n1.trans n2).trans (Nx.laid (o := qT q) hp)
    have I3 := I2.laid (o := qT q) hp
    refine hz R2 σ _ I3 _ fun R4 w H4 d' b' ⟨e1, e2⟩ I4 n4 r4 => ?_
    subst e1 e2
    cases r4
    have hp4 : H4 p = some (qT q) := n4.lx p _ (I2.notT hp) upd_same
    refine ⟨valV (encA al) (ek q), .inr ⟨encA al, ek q, p, rd_own (O.after (n3.trans n4)) ha, rfl, hp4, rfl⟩, ?_⟩
    rw [getD_enc]
    exact c R4 _ H4 I4 (n3.trans n4) (.int _)⟩)
end
end PL
set_option maxHeartbeats 4000000
/-! running with owned dicts -/
namespace PL
open PySem PySem.Spec PyProof.Rows L2 RZ
theorem Own.rebase {T : Option Addr} {B B' : Bs} {R H : Hp} {hf : Hf} (h : Own T B R H hf) (e : B'.H0 = B.H0) : Own T B' R H hf :=
  ⟨fun q hq => let o := h.all q hq; ⟨o.at_, o.r, by rw [e]; exact o.b, o.t, o.m⟩, h.nd⟩
theorem Own.cons {K : PySem.W.Frag} {T : Option Addr} {B : Bs} {S : Sta} {R H : Hp} {σ : L2.St} {hf : Hf} {p : Addr} {o : HO} (h : Own T B R H hf) (I : HS K B T S R σ H) (hp : H p = none) (hm : ∀ xs, o ≠ .lst xs) : Own T B R (L2.upd H p o) ((p, o) :: hf) := by
  refine ⟨fun x hx => ?_, ?_⟩
  · rcases List.mem_cons.mp hx with e | e
    · subst e
      have ht : T ≠ some p := I.drp.notT hp
      exact ⟨upd_same, I.le.fre hp, I.n.none_of ht hp, ht, hm⟩
    · have h1 := h.all x e
      have hne : x.1 ≠ p := fun z => by
        have := h1.at_
        rw [z, hp] at this; cases this
      exact ⟨by rw [upd_ne hne]; exact h1.at_, h1.r, h1.b, h1.t, h1.m⟩
  · refine List.nodup_cons.mpr ⟨fun hx => ?_, h.nd⟩
    obtain ⟨x, hx1, hx2⟩ := List.mem_map.mp hx
    have := (h.all x hx1).at_
    rw [hx2, hp] at this; cases this
section
variable {X : Cx} {T : Option Addr} {S : Sta} {hf : Hf} {k : KO} {e a b c f o tg : Expr} {es : List Expr} {st : Stmt} {rest body oth : List Stmt} {pos pos' apos p2 : Pos} {d d1 d2 : PyData} {x : Str}
/-- d.get(key, 0), the key a name -/
theorem evo_get2V {a kq : Addr} {al : AL} {q : Q2} {i : Expr} (hu : X.A.units + 1 < cLine) (hd : EvP X T o S (rD a)) (ha : (a, dH al) ∈ hf ∨ ∃ od, (a, .frz od (dH al)) ∈ hf) (hk : EvP X T i S (rD kq)) (hq : (kq, qT q) ∈ hf) (hz : EvP X T f S (nD 0))
    (m : M2 X o "get" apos i f pos) : EvH X T (.Call (.Attribute o "get" apos) [i, f] [] pos) S hf (nD (getA al q)) := fun B R σ H I O Q c =>
  wpE_of (pe_dget2 hu pe_wp pe_wp pe_wp m) (evo_ref hd R σ H I _ fun R1 H1 I1 n1 => ⟨a, rfl, .inr ⟨encA al, rd_own (O.after n1) ha⟩, evo_ref hk R1 σ H1 I1 _ fun R2 H2 I2 n2 => by
    have n3 := n1.trans n2
    refine hz R2 σ _ I2 _ fun R4 w H4 d' b' ⟨e1, e2⟩ I4 n4 r4 => ?_
    subst e1 e2
    cases r4
    have O4 := O.after (n3.trans n4)
    refine ⟨valV (encA al) (ek q), .inr ⟨encA al, ek q, kq, rd_own O4 ha, rfl, (O4.all _ hq).at_, rfl⟩, ?_⟩
    rw [getD_enc]
    exact c R4 _ H4 I4 (n3.trans n4) (.int _)⟩)
theorem runo_asgP (i : Nat) (h : EvP X T e S.drp d) (q : RunO X T rest ⟨S.b, S.sl.set i (some (.dat d))⟩ hf k) (hN : X.N.Nodup) (hi : X.N[i]? = some x := by rfl) (hx : Loc X.env.scope x := by first | exact .inl rfl | exact .inr rfl) (hf' : X.fn x = true ∨ X.env.scope.names.lookup x = some .local := by first | exact .inl rfl | exact .inr rfl)
    (hs : swapsWith e (some (.Name x pos')) pos.line X.env = pure false := by rfl) : RunO X T (.Assign [.Name x pos'] e pos :: rest) S hf k := fun B R σ H I O D L =>
  seq_of (ps_set (i := i) hN hi hx pe_wp hs hf') (h R σ H I.drp _ fun R1 v H1 d' b ⟨e1, e2⟩ I1 n1 r1 => by
    subst e1 e2
    exact q B R1 _ H1 ((I.after I1.le n1 I1.tw).setOne r1) (O.after n1) D L)
theorem runo_retH (h : EvH X T e S.drp hf d) (q : k.rt d S.b) : RunO X T (.Return (some e) pos :: rest) S hf k := fun B R σ H I O D L =>
  seq_of (ps_ret pe_wp) (h B R σ H I.drp O _ fun R1 v H1 I1 n1 r1 => L.rt R1 v H1 d S.b q I1.le (I.n.trans n1) I1.tw r1)
/-- x = {} -/
theorem runo_dnew (i : Nat) (q : ∀ p, RunO X T rest ⟨S.b, S.sl.set i (some (.dat (rD p)))⟩ ((p, dH []) :: hf) k) (hN : X.N.Nodup) (hi : X.N[i]? = some x := by rfl) (hx : Loc X.env.scope x := by first | exact .inl rfl | exact .inr rfl) (hf' : X.fn x = true ∨ X.env.scope.names.lookup x = some .local := by first | exact .inl rfl | exact .inr rfl)
    (hs : swapsWith (.Dict [] [] p2) (some (.Name x pos')) pos.line X.env = pure false := by rfl) : RunO X T (.Assign [.Name x pos'] (.Dict [] [] p2) pos :: rest) S hf k := fun B R σ H I O D L =>
  seq_of (ps_set (i := i) hN hi hx pe_dnewT hs hf') fun p hp => q p B R _ _ ((I.after (I.le.muts (I.le.fre hp)) (Nx.laid hp) (I.tw.laid hp)).setOne .rf) (O.cons I hp fun xs z => nomatch z) D L
/-- x = {(m, n): v} -/
theorem runo_ddisp (i : Nat) {j : Nat} {q2 : Q2} {v : Nat} (hu : X.A.units + 1 < cLine) (hk : EvAP X T es S.drp [nD q2.1, nD q2.2]) (hv : EvP X T e S.drp (nD v)) (q : ∀ p, RunO X T rest ⟨S.b, S.sl.set i (some (.dat (rD p)))⟩ ((p, dH [(q2, v)]) :: hf) k) (hN : X.N.Nodup) (hi : X.N[i]? = some x := by rfl) (hx : Loc X.env.scope x := by first | exact .inl rfl | exact .inr rfl) (hf' : X.fn x = true ∨ X.env.scope.names.lookup x = some .local := by first | exact .inl rfl | exact .inr rfl)
    (hs : swapsWith (.Dict [some (.Tuple es j apos)] [e] p2) (some (.Name x pos')) pos.line X.env = pure false := by rfl) : RunO X T (.Assign [.Name x pos'] (.Dict [some (.Tuple es j apos)] [e] p2) pos :: rest) S hf k := fun B R σ H I O D L =>
  seq_of (ps_set (i := i) hN hi hx (pe_dispT hu (pe_tup pa_wp) pe_wp) hs hf') fun p hp => by
    have hT := I.drp.notT hp
    have I0 := I.after (I.le.muts (I.le.fre hp)) (Nx.laid (o := .dT []) hp) (I.tw.laid hp)
    refine hk R σ _ I0.drp _ fun R1 vs H1 ds b ⟨e1, e2⟩ I1 n1 r1 => ?_
    subst e1 e2
    obtain ⟨w1, w2, rfl, z1, z2⟩ := r1.two
    cases z1; cases z2
    refine ⟨by rw [sizeLine_eq]; simp, fun t ht => ?_⟩
    have I2 := I1.laid (o := qT q2) ht
    have hT2 := I1.notT ht
    refine hv R1 σ _ I2 _ fun R3 w H3 d' b' ⟨e1, e2⟩ I3 n3 r3 => ?_
    subst e1 e2
    cases r3
    have hp1 : H1 p = some (.dT []) := n1.lx p _ hT upd_same
    have hne : p ≠ t := fun z => by rw [z, ht] at hp1; cases hp1
    have hp3 : H3 p = some (.dT []) := n3.lx p _ hT (by rw [upd_ne hne]; exact hp1)
    have ht3 : H3 t = some (qT q2) := n3.lx t _ hT2 upd_same
    have nn := (n1.trans (Nx.laid (o := qT q2) ht)).trans n3
    have I4 := I0.after I3.le nn I3.tw
    have O4 := (O.cons (o := .dT []) I hp fun xs z => nomatch z).after nn
    refine ⟨t, ek q2, rfl, ht3, hp3, ?_⟩
    have e5 : (.dT (putK [] (ek q2) (V.int (v : Int))) : HO) = dH [(q2, v)] := rfl
    rw [e5]
    exact q p B R3 _ _ ((HS.updO I4 (O4.all _ List.mem_cons_self)).setOne .rf) (O4.upd fun xs z => nomatch z) D L
/-- x = (m, n), to be a key -/
theorem runo_key (i : Nat) {j : Nat} {q2 : Q2} (hk : EvAP X T es S.drp [nD q2.1, nD q2.2]) (q : ∀ p, RunO X T rest ⟨S.b, S.sl.set i (some (.dat (rD p)))⟩ ((p, qT q2) :: hf) k) (hN : X.N.Nodup) (hi : X.N[i]? = some x := by rfl) (hx : Loc X.env.scope x := by first | exact .inl rfl | exact .inr rfl) (hf' : X.fn x = true ∨ X.env.scope.names.lookup x = some .local := by first | exact .inl rfl | exact .inr rfl)
    (hs : swapsWith (.Tuple es j p2) (some (.Name x pos')) pos.line X.env = pure false := by rfl) : RunO X T (.Assign [.Name x pos'] (.Tuple es j p2) pos :: rest) S hf k := fun B R σ H I O D L =>
  seq_of (ps_set (i := i) hN hi hx (pe_tup pa_wp) hs hf') (hk R σ H I.drp _ fun R1 vs H1 ds b ⟨e1, e2⟩ I1 n1 r1 => by
    subst e1 e2
    obtain ⟨w1, w2, rfl, z1, z2⟩ := r1.two
    cases z1; cases z2
    refine ⟨by rw [sizeLine_eq]; simp, fun t ht => ?_⟩
    have I2 := I.after I1.le n1 I1.tw
    have I3 := I2.after (I2.le.muts (I2.le.fre ht)) (Nx.laid (o := qT q2) ht) (I2.tw.laid ht)
    exact q t B R1 _ _ (I3.setOne .rf) ((O.after n1).cons I2 ht fun xs z => nomatch z) D L)
/-- d[key] = e -/
theorem runo_dput {a kq : Addr} {al : AL} {q2 : Q2} {v : Nat} {i : Expr} (hu : X.A.units + 1 < cLine) (hd : EvP X T o S.drp (rD a)) (hk : EvP X T i S.drp (rD kq)) (hq : (kq, qT q2) ∈ hf) (hv : EvH X T e S.drp ((a, dH al) :: hf) (nD v)) (hz : al.length < sizeLine)
    (q : RunO X T rest S ((a, dH (putA al q2 v)) :: hf) k) (hs : swapsWith e (some (.Subscript o i pos')) pos.line X.env = pure false := by rfl) : RunO X T (.Assign [.Subscript o i pos'] e pos :: rest) S ((a, dH al) :: hf) k := fun B R σ H I O D L =>
  seq_of (ps_dput hu pe_wp pe_wp pe_wp hs) (hv B R σ H I.drp O _ fun R1 w H1 I1 n1 r1 => evo_ref hd R1 σ H1 I1 _ fun R2 H2 I2 n2 => evo_ref hk R2 σ H2 I2 _ fun R3 H3 I3 n3 => by
    cases r1
    have nn := (n1.trans n2).trans n3
    have O3 := O.after nn
    have I4 := I.after I3.le nn I3.tw
    refine ⟨a, _, rfl, DPut.t (k := ek q2) (O3.all _ List.mem_cons_self).at_ (O3.all _ (List.mem_cons_of_mem _ hq)).at_ (by rw [encA_len]; exact hz), ?_⟩
    rw [putK_enc]
    exact q B R3 σ _ (HS.updO I4 (O3.all _ List.mem_cons_self)) (O3.upd fun xs z => nomatch z) D L)
/-- for over data -/
theorem runo_for {iter : Expr} {g : TG} {xs : List PyData} (hi : EvIP X T tg iter S.drp xs) (hg : PG X tg g) (Pv : Nat → Sta → Hf → Prop) (h0 : Pv 0 S hf)
    (step : ∀ i x S' hf', xs[i]? = some x → Pv i S' hf' → ∃ ps, GS X.K g x ps ∧ RunO X T body ⟨S'.b, setD S'.sl ps⟩ hf' ⟨Pv (i + 1), fun _ _ => False⟩) (fin : ∀ S' hf', Pv xs.length S' hf' → RunO X T rest S' hf' k)
    (hp : PassesOwn (model X.prog X.w) X.A X.env X.xe := by exact PassesOwn.never) (hc : X.calm = true := by rfl) (hs : ∀ x, foldedSetIterable iter X.env x = pure x := by intro _; rfl) : RunO X T (.For tg iter body [] pos :: rest) S hf k := fun B R σ H I O D L => by
  obtain ⟨wi, hpi, hwi⟩ := hi
  refine seq_of (ps_for hp hc hpi hg pss_wp hs) (hwi R σ H I.drp _ fun J R1 H1 xs' b ⟨k1, k2⟩ I1 n1 W => ?_)
  subst k1 k2
  have I2 := I.after I1.le n1 I1.tw
  have nB := I2.n
  have I0 := I2.based
  have O0 : Own T ⟨R1, B.H0⟩ R1 H1 hf := (O.after n1).rebase rfl
  refine ⟨fun i m σ' H' => m = xs'.length - i ∧ i ≤ xs'.length ∧ ∃ S' hf' R', Pv i S' hf' ∧ HS X.K ⟨R1, B.H0⟩ T S' R' σ' H' ∧ Own T ⟨R1, B.H0⟩ R' H' hf', ⟨xs'.length, rfl, Nat.zero_le _, _, _, R1, h0, I0, O0⟩, ?_⟩
  rintro i m σ' H' ⟨rfl, hi, S', hf', R', pv, I', O'⟩
  have le2 : Le R1 R' := I'.n.lr
  have le1 : Le R1 H' := le2.trans I'.le
  by_cases hlt : i < xs'.length
  · have hx : xs'[i]? = some xs'[i] := List.getElem?_eq_getElem hlt
    obtain ⟨ps, hgs, hrun⟩ := step i xs'[i] S' hf' hx pv
    obtain ⟨hgo, hy⟩ := W.go i H' xs'[i] le1 hx
    refine .inr ⟨hgo, fun σ2 H2 => ∃ S2 h2 R2, Pv (i + 1) S2 h2 ∧ HS X.K ⟨R1, B.H0⟩ T S2 R2 σ2 H2 ∧ Own T ⟨R1, B.H0⟩ R2 H2 h2, fun σ2 H2 hN => ⟨xs'.length - (i + 1), by omega, rfl, hlt, hN⟩, fun v H2 hyl => ?_⟩
    rcases hy v H2 hyl with ⟨e1, r1⟩ | ⟨p, us, ds, e1, e2, e3, e4, r1⟩
    · subst e1
      exact hgs R' σ' H2 v _ I'.le (r1.le le2) fun ws rw' => hrun _ R' _ H2 (I'.setAll ps rw') O' _ ⟨fun S2 h2 R2 σ2 H2 q I2 O2 => ⟨S2, h2, R2, q, I2, O2⟩, fun _ _ _ _ _ z => z.elim⟩
    · subst e1 e3
      have I2 := I'.laid2 (o := .tup us) e2
      have O2 : Own T ⟨R1, B.H0⟩ _ _ hf' := O'.after (Nx.laid2 (o := .tup us) I'.le e2)
      refine hgs _ σ' _ _ _ I2.le ?_ fun ws rw' => hrun _ _ _ _ (I2.setAll ps rw') O2 _ ⟨fun S2 h2 R2 σ2 H2 q I2 O2 => ⟨S2, h2, R2, q, I2, O2⟩, fun _ _ _ _ _ z => z.elim⟩
      rw [e4]
      exact .tup (SqT.of upd_same) ((r1.le le2).le (Le.upd (I'.le.fre e2)))
  · have ei : i = xs'.length := by omega
    subst ei
    exact .inl ⟨W.stop _ H' le1 (Nat.le_refl _), fin S' hf' pv B R' σ' H' (HS.unbased nB I') (O'.rebase rfl) D L⟩
/-- for over the keys of an owned dict -/
theorem runo_keys {iter : Expr} {g : TG} {a : Addr} {al : AL} {hf0 : Hf} (i1 i2 : Nat) (hd : EvP X T iter S.drp (rD a)) (hg : PG X tg g) (hgs : ∀ q : Q2, GS X.K g (.tuple [nD q.1, nD q.2]) [(i1, nD q.1), (i2, nD q.2)]) (Pv : Nat → Sta → Hf → Prop) (h0 : Pv 0 S hf0)
    (step : ∀ od i e S' hf', al[i]? = some e → Pv i S' hf' → RunO X T body ⟨S'.b, setD S'.sl [(i1, nD e.1.1), (i2, nD e.1.2)]⟩ ((a, .frz od (dH al)) :: hf') ⟨fun S2 h2 => ∃ h3, h2 = (a, .frz od (dH al)) :: h3 ∧ Pv (i + 1) S2 h3, fun _ _ => False⟩)
    (fin : ∀ S' hf', Pv al.length S' hf' → RunO X T rest S' ((a, dH al) :: hf') k)
    (hp : PassesOwn (model X.prog X.w) X.A X.env X.xe := by exact PassesOwn.never) (hc : X.calm = true := by rfl) (hs : ∀ x, foldedSetIterable iter X.env x = pure x := by intro _; rfl) : RunO X T (.For tg iter body [] pos :: rest) S ((a, dH al) :: hf0) k := fun B R σ H I O D L => by
  have w0 := O.all _ List.mem_cons_self
  refine seq_of (ps_lock (ps_for hp hc (pi_keys pe_wp) hg pss_wp hs)) ⟨a, dH al, w0.at_, True.intro, fun od => ?_⟩
  have I0 : HS X.K B T S R σ (L2.upd H a (.frz od (dH al))) := HS.updO I w0
  have O0 := O.upd (o' := .frz od (dH al)) fun xs z => nomatch z
  refine evo_ref hd R σ _ I0.drp _ fun R1 H1 I1 n1 => ?_
  have I2 := I0.after I1.le n1 I1.tw
  have O2 := O0.after n1
  refine ⟨a, od, rfl, .inr ⟨encA al, (O2.all _ List.mem_cons_self).at_, ?_⟩⟩
  refine ⟨fun i m σ' H' => m = al.length - i ∧ i ≤ al.length ∧ ∃ S' hf' R', Pv i S' hf' ∧ HS X.K B T S' R' σ' H' ∧ Own T B R' H' ((a, .frz od (dH al)) :: hf'), ⟨al.length, rfl, Nat.zero_le _, _, _, R1, h0, I2, O2⟩, ?_⟩
  rintro i m σ' H' ⟨rfl, hi, S', hf', R', pv, I', O'⟩
  have wa := (O'.all _ List.mem_cons_self)
  by_cases hlt : i < al.length
  · have hx : al[i]? = some al[i] := List.getElem?_eq_getElem hlt
    have hrun := step od i al[i] S' hf' hx pv
    refine .inr ⟨⟨wa.at_, by rw [encA_len]; exact hlt⟩, fun σ2 H2 => ∃ S2 h2 R2, Pv (i + 1) S2 h2 ∧ HS X.K B T S2 R2 σ2 H2 ∧ Own T B R2 H2 ((a, .frz od (dH al)) :: h2), fun σ2 H2 hN => ⟨al.length - (i + 1), by omega, rfl, hlt, hN⟩, fun v H2 hyl => ?_⟩
    obtain ⟨e1, kk, vv, qq, hk, e2, hq⟩ := hyl
    subst e1 e2
    have hkk : kk = ek al[i].1 := by
      unfold encA at hk
      rw [List.getElem?_map, hx] at hk
      have := Option.some.inj hk
      exact (congrArg Prod.fst this).symm
    subst hkk
    refine hgs al[i].1 H2 σ' H2 (.ref qq) _ (Le.refl _) (.tup (SqT.of hq) (.cons (.int _) (.cons (.int _) .nil))) fun ws rw' => ?_
    have rr : RpA X.K R' ws [nD al[i].1.1, nD al[i].1.2] := by
      obtain ⟨w1, w2, rfl, z1, z2⟩ := RpA.two rw'
      cases z1; cases z2
      exact .cons (.int _) (.cons (.int _) .nil)
    exact hrun B R' _ H2 (I'.setAll [(i1, nD al[i].1.1), (i2, nD al[i].1.2)] rr) O' _ ⟨fun S2 h2 R2 σ2 H2 ⟨h3, q1, q2⟩ I2 O2 => ⟨S2, h3, R2, q2, I2, by rw [← q1]; exact O2⟩, fun _ _ _ _ _ z => z.elim⟩
  · have ei : i = al.length := by omega
    subst ei
    exact .inl ⟨⟨wa.at_, by rw [encA_len]; exact Nat.le_refl _⟩, wa.at_, fin S' hf' pv B R' σ' _ (HS.updO I' wa) (O'.upd fun xs z => nomatch z) D L⟩
theorem runo_swap {q r : Addr × HO} (h : RunO X T rest S (r :: q :: hf) k) : RunO X T rest S (q :: r :: hf) k := fun B R σ H I O D L => h B R σ H I O.swap D L
theorem runo_drop {q : Addr × HO} (h : RunO X T rest S hf k) : RunO X T rest S (q :: hf) k := fun B R σ H I O D L => h B R σ H I O.tail D L
end
end PL
set_option maxHeartbeats 4000000
namespace PL
open PySem RZ
abbrev ky (al : AL) : List Q2 := al.map (·.1)
theorem lk_no {al : AL} {q : Q2} (h : q ∉ ky al) : lk al q = 0 := by
  induction al with
  | nil => rfl
  | cons e r ih =>
    unfold lk at ih ⊢
    rw [List.map_cons, List.sum_cons, ih fun w => h (List.mem_cons_of_mem _ w), if_neg fun w => h (by rw [← w]; exact List.mem_cons_self)]
theorem any_ky {al : AL} {q : Q2} : (al.any fun e => decide (e.1 = q)) = true ↔ q ∈ ky al := by
  rw [List.any_eq_true]
  constructor
  · rintro ⟨e, he, h⟩
    exact List.mem_map.mpr ⟨e, he, of_decide_eq_true h⟩
  · intro h
    obtain ⟨e, he, h⟩ := List.mem_map.mp h
    exact ⟨e, he, decide_eq_true h⟩
theorem getA_lk {al : AL} (nd : (ky al).Nodup) (q : Q2) : getA al q = lk al q := by
  induction al with
  | nil => rfl
  | cons e r ih =>
    have nd' := List.nodup_cons.mp (show (e.1 :: ky r).Nodup from nd)
    unfold getA lk
    rw [List.map_cons, List.sum_cons]
    by_cases h : e.1 = q
    · rw [List.find?_cons_of_pos (by simpa using h), if_pos h]
      have := lk_no (al := r) (q := q) (by rw [← h]; exact nd'.1)
      unfold lk at this
      rw [this]; rfl
    · rw [List.find?_cons_of_neg (by simpa using h), if_neg h, Nat.zero_add]
      exact ih nd'.2
theorem repl_no {al : AL} {q : Q2} {v : Nat} (h : q ∉ ky al) : al.map (fun e => if e.1 = q then (e.1, v) else e) = al := by
  induction al with
  | nil => rfl
  | cons e r ih =>
    rw [List.map_cons, ih fun w => h (List.mem_cons_of_mem _ w), if_neg fun w => h (by rw [← w]; exact List.mem_cons_self)]
theorem lk_repl {al : AL} (nd : (ky al).Nodup) {q : Q2} {v : Nat} (hq : q ∈ ky al) (r' : Q2) : lk (al.map fun e => if e.1 = q then (e.1, v) else e) r' = if q = r' then v else lk al r' := by
  induction al with
  | nil => cases hq
  | cons e r ih =>
    have nd' := List.nodup_cons.mp (show (e.1 :: ky r).Nodup from nd)
    rw [List.map_cons]
    by_cases h : e.1 = q
    · have hn : q ∉ ky r := by rw [← h]; exact nd'.1
      rw [if_pos h, repl_no hn, h]
      show (if q = r' then v else 0) + lk r r' = if q = r' then v else (if e.1 = r' then e.2 else 0) + lk r r'
      by_cases g : q = r'
      · rw [if_pos g, if_pos g, lk_no (by rw [← g]; exact hn)]; rfl
      · rw [if_neg g, if_neg g, if_neg (by rw [h]; exact g)]
    · rw [if_neg h]
      have hq' : q ∈ ky r := by
        rcases List.mem_cons.mp (show q ∈ e.1 :: ky r from hq) with w | w
        · exact absurd w.symm h
        · exact w
      show (if e.1 = r' then e.2 else 0) + lk _ r' = if q = r' then v else (if e.1 = r' then e.2 else 0) + lk r r'
      rw [ih nd'.2 hq']
      by_cases g : q = r'
      · rw [if_pos g, if_pos g, if_neg (by rw [← g]; exact h), Nat.zero_add]
      · rw [if_neg g, if_neg g]
theorem lk_put {al : AL} (nd : (ky al).Nodup) (q : Q2) (w : Nat) (r : Q2) : lk (putA al q (getA al q + w)) r = lk al r + if q = r then w else 0 := by
  unfold putA
  by_cases h : q ∈ ky al
  · rw [if_pos (any_ky.mpr h), lk_repl nd h, getA_lk nd]
    by_cases g : q = r
    · rw [if_pos g, if_pos g, g]
    · rw [if_neg g, if_neg g]; rfl
  · rw [if_neg fun z => h (any_ky.mp z), getA_lk nd, lk_no h, Nat.zero_add]
    unfold lk
    rw [List.map_append, sum_app]
    simp
theorem ky_put {al : AL} (nd : (ky al).Nodup) (q : Q2) (v : Nat) : (ky (putA al q v)).Nodup ∧ ∀ e ∈ putA al q v, e.1 = q ∨ e.1 ∈ ky al := by
  unfold putA
  by_cases h : (al.any fun e => decide (e.1 = q)) = true
  · rw [if_pos h]
    have e : ky (al.map fun e => if e.1 = q then (e.1, v) else e) = ky al := by
      show List.map _ (List.map _ al) = _
      rw [List.map_map]
      refine List.map_congr_left fun x _ => ?_
      show (if x.1 = q then (x.1, v) else x).1 = x.1
      split <;> rfl
    rw [e]
    refine ⟨nd, fun x hx => .inr ?_⟩
    rw [← e]
    exact List.mem_map_of_mem hx
  · rw [if_neg h]
    refine ⟨?_, fun x hx => ?_⟩
    · show (List.map _ (al ++ [(q, v)])).Nodup
      rw [List.map_append, List.nodup_append]
      refine ⟨nd, by simp, fun a ha b hb => ?_⟩
      have : b = q := by simpa using hb
      subst this
      intro z
      subst z
      exact h (any_ky.mpr ha)
    · rcases List.mem_append.mp hx with w | w
      · exact .inr (List.mem_map_of_mem w)
      · have : x = (q, v) := by simpa using w
        subst this
        exact .inl rfl
def insA (f u : Nat) (acc : AL) (e : Q2 × Nat) : AL := putA acc (nx f u e.1) (getA acc (nx f u e.1) + e.2)
theorem ga_ins {m f u : Nat} {acc : AL} {e : Q2 × Nat} (ga : GA (m + 1) acc) (he : e.1.2 ≤ m) : GA (m + 1) (insA f u acc e) := by
  have h := ky_put ga.nd (nx f u e.1) (getA acc (nx f u e.1) + e.2)
  refine ⟨h.1, fun x hx => ?_⟩
  rcases h.2 x hx with w | w
  · rw [w]
    have := dg_le f u e.1
    exact ⟨dg_le f u e.1, by show e.1.2 + dg f u e.1 ≤ _; omega⟩
  · obtain ⟨y, hy, e1⟩ := List.mem_map.mp w
    rw [← e1]
    exact ga.le y hy
theorem fold_ins {m f u : Nat} : ∀ (l : AL) (acc : AL), GA (m + 1) acc → (∀ e ∈ l, e.1.2 ≤ m) → GA (m + 1) (l.foldl (insA f u) acc) ∧ ∀ r, lk (l.foldl (insA f u) acc) r = lk acc r + (l.map fun e => if nx f u e.1 = r then e.2 else 0).sum
  | [], acc, ga, _ => ⟨ga, fun r => rfl⟩
  | e :: l, acc, ga, h => by
    have g1 := ga_ins (f := f) (u := u) ga (h e List.mem_cons_self)
    obtain ⟨h1, h2⟩ := fold_ins l (insA f u acc e) g1 fun x hx => h x (List.mem_cons_of_mem _ hx)
    refine ⟨h1, fun r => ?_⟩
    rw [List.foldl_cons, h2 r, List.map_cons, List.sum_cons]
    have := lk_put ga.nd (nx f u e.1) e.2 r
    unfold insA
    rw [this, Nat.add_assoc]
def stepA (f : Nat) (al : AL) (acc : AL) (u : Nat) : AL := al.foldl (insA f u) acc
def aftA (f : Nat) (al : AL) (i : Nat) : AL := (List.range i).foldl (stepA f al) []
theorem aftA_succ (f : Nat) (al : AL) (i : Nat) : aftA f al (i + 1) = al.foldl (insA f i) (aftA f al i) := by
  unfold aftA
  rw [List.range_succ, List.foldl_append]; rfl
theorem aftA_is {m f : Nat} {al : AL} (ga : GA m al) : ∀ i, GA (m + 1) (aftA f al i) ∧ ∀ r, lk (aftA f al i) r = ((List.range i).map fun u => (al.map fun e => if nx f u e.1 = r then e.2 else 0).sum).sum
  | 0 => ⟨⟨List.nodup_nil, fun e he => nomatch he⟩, fun r => rfl⟩
  | i + 1 => by
    obtain ⟨h1, h2⟩ := aftA_is ga i
    obtain ⟨h3, h4⟩ := fold_ins (f := f) (u := i) al (aftA f al i) h1 fun e he => (ga.le e he).2
    rw [aftA_succ]
    refine ⟨h3, fun r => ?_⟩
    rw [h4 r, h2 r, List.range_succ, List.map_append, sum_app]
    simp
def alN (p n : Nat) : Nat → AL
  | 0 => [((0, 0), 1)]
  | m + 1 => aftA (n / p ^ m % p) (alN p n m) p
theorem alN_is {p n : Nat} (hp : 2 ≤ p) : ∀ m, GA m (alN p n m) ∧ ∀ q, lk (alN p n m) q = cS p n m q
  | 0 => by
    refine ⟨⟨by simp [alN], fun e he => ?_⟩, fun q => ?_⟩
    · have : e = ((0, 0), 1) := by simpa [alN] using he
      subst this
      exact ⟨by decide, by decide⟩
    · unfold lk cS alN
      rw [Nat.pow_zero]
      have : st p n 0 0 = (0, 0) := by
        unfold st bw tm
        simp [Nat.mod_one]
      simp [this]
  | m + 1 => by
    obtain ⟨h1, h2⟩ := alN_is (n := n) hp m
    obtain ⟨h3, h4⟩ := aftA_is (f := n / p ^ m % p) h1 p
    refine ⟨h3, fun q => ?_⟩
    show lk (aftA _ _ p) q = _
    rw [h4 q, cS_step hp]
    congr 1
    refine List.map_congr_left fun u _ => ?_
    have := group_eq h1 h2 fun r => if nx (n / p ^ m % p) u r = q then 1 else 0
    rw [← this]
    congr 1
    refine List.map_congr_left fun e _ => ?_
    split <;> simp
/-! few keys -/
theorem nodup_lt : ∀ (N : Nat) (l : List Nat), l.Nodup → (∀ x ∈ l, x < N) → l.length ≤ N
  | 0, l, _, h => by
    cases l with
    | nil => exact Nat.le_refl _
    | cons a r => exact absurd (h a List.mem_cons_self) (Nat.not_lt_zero a)
  | N + 1, l, nd, h => by
    by_cases g : N ∈ l
    · have h1 := nodup_lt N (l.erase N) (nd.erase N) fun x hx => by
        have h2 := (List.Nodup.mem_erase_iff nd).mp hx
        have := h x h2.2
        have := h2.1
        omega
      rw [List.length_erase_of_mem g] at h1
      omega
    · have h1 := nodup_lt N l nd fun x hx => by
        have := h x hx
        have : x ≠ N := fun z => g (by rw [← z]; exact hx)
        omega
      omega
theorem GA.len {m : Nat} {al : AL} (ga : GA m al) : al.length ≤ 2 * (m + 1) := by
  have h := nodup_lt (2 * (m + 1)) (al.map fun e => cd e.1) ?_ fun x hx => ?_
  · rwa [List.length_map] at h
  · have nd := ga.nd
    unfold List.Nodup at nd ⊢
    rw [List.pairwise_map] at nd ⊢
    exact nd.imp_of_mem fun {a b} ha hb hne w => hne ((cd_inj (ga.le a ha).1 (ga.le b hb).1).mp w)
  · obtain ⟨e, he, rfl⟩ := List.mem_map.mp hx
    have := ga.le e he
    show 2 * e.1.2 + e.1.1 < _
    omega
/-! what with_power tells -/
def vpL (p n : Nat) : List Nat := (rowC n).map (vp p)
def wpw (p n h : Nat) : Nat := (vpL p n).count h
theorem count_sum (l : List Nat) (h : Nat) : l.count h = (l.map fun x => if x = h then 1 else 0).sum := by
  induction l with
  | nil => rfl
  | cons a r ih =>
    rw [List.count_cons, List.map_cons, List.sum_cons, ih]
    by_cases g : a = h
    · subst g; simp; omega
    · simp [g]
theorem sum_zero {l : List Nat} {f : Nat → Nat} (h : ∀ x ∈ l, f x = 0) : (l.map f).sum = 0 := by
  induction l with
  | nil => rfl
  | cons a r ih => rw [List.map_cons, List.sum_cons, h a List.mem_cons_self, ih fun x hx => h x (List.mem_cons_of_mem _ hx)]
theorem cS_wpw {p n L h : Nat} (hp : Pr p) (hL : n < p ^ L) : cS p n L (0, h) = wpw p n h := by
  unfold cS wpw vpL rowC
  rw [count_sum, List.map_map, List.map_map]
  obtain ⟨d, hd⟩ := Nat.exists_eq_add_of_le (show n + 1 ≤ p ^ L from hL)
  rw [hd, map_range_add, sum_app]
  have e2 : ((List.range d).map fun k => if st p n L (n + 1 + k) = (0, h) then 1 else 0).sum = 0 := sum_zero fun k hk => by
    have hk := List.mem_range.mp hk
    refine if_neg fun w => ?_
    have e3 : bw p n L (n + 1 + k) = 0 := congrArg Prod.fst w
    unfold bw at e3
    rw [Nat.mod_eq_of_lt hL, Nat.mod_eq_of_lt (by omega), if_pos (by omega)] at e3
    cases e3
  rw [e2, Nat.add_zero]
  congr 1
  refine List.map_congr_left fun k hk => ?_
  have hk := List.mem_range.mp hk
  have e1 : bw p n L k = 0 := by
    unfold bw
    rw [Nat.mod_eq_of_lt hL, Nat.mod_eq_of_lt (by omega), if_neg (by omega)]
  show (if (bw p n L k, tm p n L k) = (0, h) then 1 else 0) = (if vp p (C n k) = h then 1 else 0)
  rw [e1, tm_vp hp (by omega) hL]
  by_cases g : vp p (C n k) = h
  · rw [if_pos g, if_pos (by rw [g])]
  · rw [if_neg g, if_neg fun w => g (congrArg Prod.snd w)]
theorem getA_wpw {p n L h : Nat} (hp : Pr p) (hL : n < p ^ L) : getA (alN p n L) (0, h) = wpw p n h := by
  obtain ⟨h1, h2⟩ := alN_is (n := n) (Pr_two hp) L
  rw [getA_lk h1.nd, h2, cS_wpw hp hL]
end PL
set_option maxHeartbeats 4000000
namespace PL
open PySem PySem.Spec PyProof.Rows L2 RZ
theorem Own.perm {T : Option Addr} {B : Bs} {R H : Hp} {hf hf' : Hf} (h : Own T B R H hf) (p : hf'.Perm hf) : Own T B R H hf' :=
  ⟨fun q hq => h.all q (p.subset hq), (p.map (·.1)).nodup_iff.mpr h.nd⟩
theorem runo_perm {X : Cx} {T : Option Addr} {S : Sta} {hf hf' : Hf} {k : KO} {rest : List Stmt} (p : hf'.Perm hf) (h : RunO X T rest S hf' k) : RunO X T rest S hf k := fun B R σ H I O D L => h B R σ H I (O.perm p) D L
theorem find_of {al : AL} (nd : (ky al).Nodup) {e : Q2 × Nat} (he : e ∈ al) : (al.find? fun x => decide (x.1 = e.1)).map (·.2) = some e.2 := by
  induction al with
  | nil => cases he
  | cons a r ih =>
    have nd' := List.nodup_cons.mp (show (a.1 :: ky r).Nodup from nd)
    rcases List.mem_cons.mp he with w | w
    · subst w
      rw [List.find?_cons_of_pos (by simp)]; rfl
    · by_cases h : a.1 = e.1
      · exact absurd (List.mem_map_of_mem (f := (·.1)) w) (by rw [← h]; exact nd'.1)
      · rw [List.find?_cons_of_neg (by simpa using h)]
        exact ih nd'.2 w
def sp_with_power : SpD := spE e3 (fun a => a.1 < 2 ^ 200 ∧ Pr a.2.1) fun a => nD (wpw a.2.1 a.1 a.2.2)
def sp_power_row : SpD := spE e2 (fun a => a.1 < 1000 ∧ Pr a.2) fun a => tM (vpL a.2 a.1)
/-! the greatest power -/
def lwN (p n : Nat) : Nat := ((figs p n).takeWhile fun f => decide (f = p - 1)).length
def gpN (p n : Nat) : Nat := (figs p n).length - 1 - lwN p n
def sp_greatest_power : SpD := spE e2 (fun a => a.1 < 2 ^ 200 ∧ Pr a.2) fun a => nD (gpN a.2 a.1)
end PL
set_option maxHeartbeats 4000000
/-! the greatest power in a row -/
namespace PL
open PySem RZ
/-- the first i figures are the prime less one -/
def twI (p : Nat) (l : List Nat) (i : Nat) : Prop := i ≤ l.length ∧ ∀ j, j < i → l.getD j 0 = p - 1
theorem twI_zero {p : Nat} {l : List Nat} : twI p l 0 := ⟨Nat.zero_le _, fun j h => by omega⟩
theorem twI_succ {p : Nat} {l : List Nat} {i : Nat} (h : twI p l i) (hl : i < l.length) (hb : l.getD i 0 = p - 1) : twI p l (i + 1) := ⟨hl, fun j hj => by
  by_cases g : j = i
  · subst g; exact hb
  · exact h.2 j (by omega)⟩
theorem tw_len (q : Nat → Bool) : ∀ (l : List Nat) (i : Nat), i ≤ l.length → (∀ j, j < i → q (l.getD j 0) = true) → (i = l.length ∨ q (l.getD i 0) = false) → (l.takeWhile q).length = i
  | [], i, h, _, _ => by
    have : i = 0 := by simpa using h
    subst this; rfl
  | a :: r, 0, _, _, h => by
    rcases h with h | h
    · cases h
    · have h : q a = false := h
      rw [List.takeWhile_cons, if_neg (by rw [h]; exact Bool.false_ne_true)]; rfl
  | a :: r, i + 1, h1, h2, h3 => by
    have h0 : q a = true := h2 0 (by omega)
    rw [List.takeWhile_cons, if_pos h0, List.length_cons, tw_len q r i (by simpa using h1) (fun j hj => h2 (j + 1) (by omega)) (by
      rcases h3 with h | h
      · exact .inl (by simpa using h)
      · exact .inr h)]
theorem twI_end {p : Nat} {l : List Nat} {i : Nat} (h : twI p l i) (he : i = l.length ∨ l.getD i 0 ≠ p - 1) : (l.takeWhile fun f => decide (f = p - 1)).length = i :=
  tw_len _ l i h.1 (fun j hj => decide_eq_true (h.2 j hj)) (he.imp_right fun w => decide_eq_false w)
theorem tw_is {p : Nat} (l : List Nat) : twI p l (l.takeWhile fun f => decide (f = p - 1)).length ∧ ((l.takeWhile fun f => decide (f = p - 1)).length = l.length ∨ l.getD (l.takeWhile fun f => decide (f = p - 1)).length 0 ≠ p - 1) := by
  induction l with
  | nil => exact ⟨twI_zero, .inl rfl⟩
  | cons a r ih =>
    by_cases g : a = p - 1
    · rw [List.takeWhile_cons, if_pos (by simpa using g), List.length_cons]
      refine ⟨⟨by have := ih.1.1; simpa using this, fun j hj => ?_⟩, ?_⟩
      · cases j with
        | zero => exact g
        | succ j => exact ih.1.2 j (by omega)
      · rcases ih.2 with h | h
        · exact .inl (by rw [h]; rfl)
        · exact .inr h
    · rw [List.takeWhile_cons, if_neg (by simpa using g)]
      exact ⟨twI_zero, .inr g⟩
/-- the low figures of n -/
theorem low_full {p n : Nat} (hp : 2 ≤ p) : ∀ i, i ≤ lwN p n → n % p ^ i = p ^ i - 1
  | 0, _ => by rw [Nat.pow_zero, Nat.mod_one]
  | i + 1, h => by
    have hl := (tw_is (p := p) (figs p n)).1.2 i h
    rw [figs_get hp] at hl
    rw [Nat.pow_succ, mod_step, low_full hp i (by omega), hl]
    have hq : 0 < p ^ i := Nat.pow_pos (by omega)
    rw [Nat.mul_sub, Nat.mul_one]
    have : p ^ i * 1 ≤ p ^ i * p := Nat.mul_le_mul_left _ (by omega)
    omega
theorem tm_low0 {p n k : Nat} (hp : 2 ≤ p) : ∀ i, i ≤ lwN p n → tm p n i k = 0
  | 0, _ => rfl
  | i + 1, h => by
    show tm p n i k + bw p n (i + 1) k = 0
    rw [tm_low0 hp i (by omega)]
    unfold bw
    rw [low_full hp (i + 1) h, if_neg]
    have := Nat.mod_lt k (show p ^ (i + 1) > 0 from Nat.pow_pos (by omega))
    omega
theorem tm_bound {p n k : Nat} (hp : 2 ≤ p) : ∀ i, tm p n i k ≤ i - lwN p n
  | 0 => by show 0 ≤ _; omega
  | i + 1 => by
    by_cases h : i + 1 ≤ lwN p n
    · rw [tm_low0 hp _ h]; omega
    · have := tm_bound (n := n) (k := k) hp i
      have := bw_le p n (i + 1) k
      show tm p n i k + bw p n (i + 1) k ≤ _
      omega
theorem vp_le_gp {p n k : Nat} (hp : Pr p) (hk : k ≤ n) : vp p (C n k) ≤ gpN p n := by
  have h2 := Pr_two hp
  have hL := figs_lt_pow h2 n
  rw [← tm_vp hp hk hL]
  unfold gpN
  generalize (figs p n).length = L at *
  cases L with
  | zero => show 0 ≤ _; omega
  | succ L =>
    have := tm_bound (n := n) (k := k) h2 L
    have e : bw p n (L + 1) k = 0 := by
      unfold bw
      rw [Nat.mod_eq_of_lt hL, Nat.mod_eq_of_lt (by omega), if_neg (by omega)]
    show tm p n L k + bw p n (L + 1) k ≤ _
    omega
/-- some place has it -/
theorem low_room {p n : Nat} (hp : 2 ≤ p) (hlw : n / p ^ lwN p n % p ≠ p - 1) : ∀ d, n % p ^ (lwN p n + 1 + d) + p ^ lwN p n < p ^ (lwN p n + 1 + d)
  | 0 => by
    rw [Nat.add_zero, Nat.pow_succ, mod_step, low_full hp _ (Nat.le_refl _)]
    have hq : 0 < p ^ lwN p n := Nat.pow_pos (by omega)
    have h1 := Nat.mod_lt (n / p ^ lwN p n) (show p > 0 by omega)
    generalize n / p ^ lwN p n % p = f at *
    have : p ^ lwN p n * (f + 2) ≤ p ^ lwN p n * p := Nat.mul_le_mul_left _ (by omega)
    rw [Nat.mul_add] at this
    omega
  | d + 1 => by
    have ih := low_room hp hlw d
    rw [← Nat.add_assoc, Nat.pow_succ, mod_step]
    have h1 := Nat.mod_lt (n / p ^ (lwN p n + 1 + d)) (show p > 0 by omega)
    generalize n / p ^ (lwN p n + 1 + d) % p = f at *
    have : p ^ (lwN p n + 1 + d) * (f + 1) ≤ p ^ (lwN p n + 1 + d) * p := Nat.mul_le_mul_left _ (by omega)
    rw [Nat.mul_add] at this
    omega
theorem tm_top {p n : Nat} (hp : 2 ≤ p) (hlw : n / p ^ lwN p n % p ≠ p - 1) {M k : Nat} (hk : k = n % p ^ (lwN p n + 1 + M) + p ^ lwN p n) : ∀ d, d ≤ M → tm p n (lwN p n + 1 + d) k = d + 1
  | 0, _ => by
    show tm p n (lwN p n) k + bw p n (lwN p n + 1) k = 1
    rw [tm_low0 hp _ (Nat.le_refl _)]
    have e : k % p ^ (lwN p n + 1) = n % p ^ (lwN p n + 1) + p ^ lwN p n := by
      have h0 := low_room hp hlw 0
      rw [Nat.add_zero] at h0
      have hpl : p ^ lwN p n < p ^ (lwN p n + 1) := Nat.pow_lt_pow_right (by omega) (by omega)
      rw [hk, Nat.add_mod, Nat.mod_mod_of_dvd _ (Nat.pow_dvd_pow p (by omega)), Nat.mod_eq_of_lt (a := p ^ lwN p n) (by omega), Nat.mod_eq_of_lt h0]
    have hq : 0 < p ^ lwN p n := Nat.pow_pos (by omega)
    unfold bw
    rw [e, if_pos (by omega)]
  | d + 1, h => by
    show tm p n (lwN p n + 1 + d) k + bw p n (lwN p n + 1 + d + 1) k = d + 1 + 1
    rw [tm_top hp hlw hk d (by omega)]
    have h0 := low_room hp hlw (d + 1)
    rw [← Nat.add_assoc] at h0
    have hpl : p ^ lwN p n < p ^ (lwN p n + 1 + d + 1) := Nat.pow_lt_pow_right (by omega) (by omega)
    have e : k % p ^ (lwN p n + 1 + d + 1) = n % p ^ (lwN p n + 1 + d + 1) + p ^ lwN p n := by
      rw [hk, Nat.add_mod, Nat.mod_mod_of_dvd _ (Nat.pow_dvd_pow p (by omega)), Nat.mod_eq_of_lt (a := p ^ lwN p n) (by omega), Nat.mod_eq_of_lt h0]
    have hq : 0 < p ^ lwN p n := Nat.pow_pos (by omega)
    unfold bw
    rw [e, if_pos (by omega)]
theorem figs_top {p : Nat} (hp : 2 ≤ p) : ∀ (m n : Nat), n ≤ m → 0 < n → p ^ ((figs p n).length - 1) ≤ n
  | 0, n, h, h0 => by omega
  | m + 1, n, h, h0 => by
    rw [figs_pos hp h0, List.length_cons, Nat.add_sub_cancel]
    by_cases g : n / p = 0
    · rw [g, figs_zero]; exact h0
    · have hd : n / p < n := Nat.div_lt_self h0 (by omega)
      have g0 := Nat.pos_of_ne_zero g
      have ih := figs_top hp m (n / p) (by omega) g0
      have hl : 0 < (figs p (n / p)).length := by
        rw [figs_pos hp g0, List.length_cons]; omega
      obtain ⟨l, hl⟩ : ∃ l, (figs p (n / p)).length = l + 1 := ⟨(figs p (n / p)).length - 1, by omega⟩
      rw [hl, Nat.add_sub_cancel] at ih
      rw [hl, Nat.pow_succ]
      have := Nat.mul_le_mul_right p ih
      have := Nat.div_mul_le_self n p
      omega
theorem gp_at {p n : Nat} (hp : Pr p) : ∃ k, k ≤ n ∧ vp p (C n k) = gpN p n := by
  have h2 := Pr_two hp
  by_cases g : gpN p n = 0
  · refine ⟨0, Nat.zero_le _, ?_⟩
    have := vp_le_gp hp (Nat.zero_le n)
    omega
  · have hL := figs_lt_pow h2 n
    obtain ⟨M, hM⟩ : ∃ M, (figs p n).length = lwN p n + 1 + M + 1 := ⟨(figs p n).length - 1 - lwN p n - 1, by unfold gpN at g; omega⟩
    have hlw : n / p ^ lwN p n % p ≠ p - 1 := by
      rcases (tw_is (p := p) (figs p n)).2 with w | w
      · exact absurd w (by show ¬ lwN p n = _; omega)
      · rwa [figs_get h2] at w
    have h0 := low_room h2 hlw M
    have hle : p ^ (lwN p n + 1 + M) ≤ n := by
      have := figs_top h2 n n (Nat.le_refl _) (by
        rcases Nat.eq_zero_or_pos n with z | z
        · rw [z, figs_zero] at hM; cases hM
        · exact z)
      rw [hM] at this
      exact this
    refine ⟨n % p ^ (lwN p n + 1 + M) + p ^ lwN p n, by omega, ?_⟩
    rw [← tm_vp hp (by omega) hL]
    unfold gpN
    rw [hM]
    show tm p n (lwN p n + 1 + M) _ + bw p n (lwN p n + 1 + M + 1) _ = _
    rw [tm_top h2 hlw rfl M (Nat.le_refl _)]
    have e : bw p n (lwN p n + 1 + M + 1) (n % p ^ (lwN p n + 1 + M) + p ^ lwN p n) = 0 := by
      rw [hM] at hL
      unfold bw
      rw [Nat.mod_eq_of_lt hL, Nat.mod_eq_of_lt (by omega), if_neg (by omega)]
    rw [e]
    omega
theorem vpL_len (p n : Nat) : (vpL p n).length = n + 1 := by unfold vpL; rw [List.length_map, rowC_len]
theorem vpL_mem {p n x : Nat} : x ∈ vpL p n ↔ ∃ k, k ≤ n ∧ vp p (C n k) = x := by
  unfold vpL rowC
  rw [List.map_map, List.mem_map]
  exact ⟨fun ⟨k, h, e⟩ => ⟨k, by have := List.mem_range.mp h; omega, e⟩, fun ⟨k, h, e⟩ => ⟨k, List.mem_range.mpr (by omega), e⟩⟩
theorem vpL_le {p n x : Nat} (hp : Pr p) (h : x ∈ vpL p n) : x ≤ gpN p n := by
  obtain ⟨k, hk, rfl⟩ := vpL_mem.mp h
  exact vp_le_gp hp hk
theorem gp_mem {p n : Nat} (hp : Pr p) : gpN p n ∈ vpL p n := by
  obtain ⟨k, hk, e⟩ := gp_at (n := n) hp
  exact vpL_mem.mpr ⟨k, hk, e⟩
theorem sum_counts {l : List Nat} {N : Nat} (h : ∀ x ∈ l, x < N) : ((List.range N).map fun i => l.count i).sum = l.length := by
  have := sum_codes (φ := fun _ => 1) (c := fun x : Nat => x) (w := fun _ => 1) l h
  have e1 : (l.map fun x => 1 * 1).sum = l.length := by
    clear this h
    induction l with
    | nil => rfl
    | cons a r ih => rw [List.map_cons, List.sum_cons, ih, List.length_cons]; omega
  rw [e1] at this
  rw [this]
  congr 1
  refine List.map_congr_left fun i _ => ?_
  rw [Nat.one_mul, count_sum]
theorem wpw_sum {p n N : Nat} (hp : Pr p) (h : gpN p n < N) : ((List.range N).map fun i => wpw p n i).sum = n + 1 := by
  have := sum_counts (l := vpL p n) (N := N) fun x hx => by have := vpL_le hp hx; omega
  rw [vpL_len] at this
  exact this
theorem wpw_top {p n : Nat} (hp : Pr p) : 0 < wpw p n (gpN p n) := List.count_pos_iff.mpr (gp_mem hp)
theorem wpw_none {p n h : Nat} (hp : Pr p) (hh : gpN p n < h) : wpw p n h = 0 := List.count_eq_zero.mpr fun w => by have := vpL_le hp w; omega
theorem vp_zero {p x : Nat} (hp : 2 ≤ p) (hx : 0 < x) : vp p x = 0 ↔ x % p ≠ 0 := by
  constructor
  · intro h w
    rw [vp_yes hp hx w] at h; cases h
  · exact vp_no
theorem wpw_zero {p : Nat} (hp : Pr p) (n : Nat) : wpw p n 0 = PL.cnt p n := by
  rw [← nz_count hp n]
  unfold wpw vpL
  rw [List.count_eq_countP, List.countP_map, List.countP_eq_length_filter]
  congr 1
  refine List.filter_congr fun x hx => ?_
  have hx0 : 0 < x := by
    unfold rowC at hx
    obtain ⟨k, hk, rfl⟩ := List.mem_map.mp hx
    exact C_pos (by have := List.mem_range.mp hk; omega)
  show (vp p x == 0) = !decide (x % p = 0)
  have := vp_zero (Pr_two hp) hx0
  by_cases g : x % p = 0
  · rw [decide_eq_true g]
    have : vp p x ≠ 0 := fun w => this.mp w g
    simp [this]
  · rw [decide_eq_false g, this.mpr g]; rfl
theorem gp_lt {p n k : Nat} (hp : 2 ≤ p) (h : n < 2 ^ k) : gpN p n ≤ k := by
  have := figs_len hp k n h
  unfold gpN
  omega
end PL
set_option maxHeartbeats 4000000
namespace PL
open PySem RZ
theorem vpL_rev (p n : Nat) : (vpL p n).reverse = vpL p n := by
  unfold vpL
  rw [← List.map_reverse, rowC_rev]
theorem vpL_head {p : Nat} (hp : 2 ≤ p) (n : Nat) : (vpL p n).getD 0 0 = 0 := by
  unfold vpL rowC
  rw [List.map_map, List.getD_eq_getElem?_getD, List.getElem?_map, List.getElem?_range (by omega)]
  show vp p (C n 0) = 0
  rw [C_zero]
  exact vp_no (by rw [Nat.mod_eq_of_lt (by omega)]; omega)
theorem gp_full {p n : Nat} (hp : Pr p) : gpN p n = 0 ↔ PL.cnt p n = n + 1 := by
  rw [← wpw_zero hp]
  constructor
  · intro h
    have := wpw_sum (n := n) (N := 1) hp (by omega)
    simpa using this
  · intro h
    have h1 := gp_mem (n := n) hp
    have h2 : (vpL p n).count 0 = (vpL p n).length := by rw [vpL_len]; exact h
    exact (List.count_eq_length.mp h2 _ h1).symm
theorem wpw_list {p n : Nat} (hp : Pr p) : ((List.range (gpN p n + 3)).map fun i => wpw p n i).drop (gpN p n + 1) = [0, 0] := by
  rw [show gpN p n + 3 = gpN p n + 1 + 1 + 1 from rfl, List.range_succ, List.range_succ, List.append_assoc, List.map_append, List.drop_left' (by rw [List.length_map, List.length_range])]
  show [wpw p n (gpN p n + 1), wpw p n (gpN p n + 1 + 1)] = _
  rw [wpw_none hp (by omega), wpw_none hp (by omega)]
theorem bw_shift {p n i k j : Nat} (hp : 2 ≤ p) (hj : j < p) : bw p (n * p + p - 1) (i + 1) (k * p + j) = bw p n i k := by
  have e1 : (n * p + p - 1) % p ^ (i + 1) = p * (n % p ^ i) + (p - 1) := by
    rw [show n * p + p - 1 = p * n + (p - 1) by rw [Nat.mul_comm]; omega, Nat.pow_succ, Nat.mul_comm (p ^ i) p, Nat.mod_mul, Nat.mul_add_mod, Nat.mod_eq_of_lt (show p - 1 < p by omega), Nat.mul_add_div (by omega), Nat.div_eq_of_lt (show p - 1 < p by omega)]
    rw [Nat.add_zero]; omega
  have e2 : (k * p + j) % p ^ (i + 1) = p * (k % p ^ i) + j := by
    rw [Nat.mul_comm k p, Nat.pow_succ, Nat.mul_comm (p ^ i) p, Nat.mod_mul, Nat.mul_add_mod, Nat.mod_eq_of_lt hj, Nat.mul_add_div (by omega), Nat.div_eq_of_lt hj]
    rw [Nat.add_zero]; omega
  unfold bw
  rw [e1, e2]
  generalize n % p ^ i = x
  generalize k % p ^ i = y
  by_cases g : x < y
  · have : p * (x + 1) ≤ p * y := Nat.mul_le_mul_left p g
    rw [Nat.mul_add] at this
    rw [if_pos g, if_pos (by omega)]
  · have : p * y ≤ p * x := Nat.mul_le_mul_left p (by omega)
    rw [if_neg g, if_neg (by omega)]
theorem tm_shift {p n k j : Nat} (hp : 2 ≤ p) (hj : j < p) : ∀ m, tm p (n * p + p - 1) (m + 1) (k * p + j) = tm p n m k
  | 0 => by
    show 0 + bw p (n * p + p - 1) (0 + 1) (k * p + j) = 0
    rw [bw_shift hp hj]
    unfold bw
    rw [Nat.pow_zero, Nat.mod_one, Nat.mod_one]; rfl
  | m + 1 => by
    show tm p (n * p + p - 1) (m + 1) (k * p + j) + bw p (n * p + p - 1) (m + 1 + 1) (k * p + j) = tm p n m k + bw p n (m + 1) k
    rw [tm_shift hp hj m, bw_shift hp hj]
theorem wpw_full {p : Nat} (hp : Pr p) (n h : Nat) : wpw p (n * p + p - 1) h = p * wpw p n h := by
  have h2 := Pr_two hp
  have hL := figs_lt_pow h2 n
  generalize (figs p n).length = L at hL
  have hpn : p * (n + 1) ≤ p * p ^ L := Nat.mul_le_mul_left p hL
  rw [Nat.mul_add, Nat.mul_one] at hpn
  have e0 : n * p + p - 1 + 1 = (n + 1) * p := by rw [Nat.succ_mul]; omega
  have hL2 : n * p + p - 1 < p ^ (L + 1) := by
    rw [Nat.pow_succ, Nat.mul_comm (p ^ L) p, Nat.mul_comm n p]; omega
  unfold wpw vpL rowC
  rw [e0, count_sum, count_sum, List.map_map, List.map_map, List.map_map, List.map_map, sum_block]
  have e1 : ∀ u ∈ List.range (n + 1), ((List.range p).map fun k => ((fun x => if x = h then 1 else 0) ∘ vp p ∘ fun k => C (n * p + p - 1) k) (u * p + k)).sum = p * (if vp p (C n u) = h then 1 else 0) := fun u hu => by
    have hu := List.mem_range.mp hu
    have e2 : ∀ k ∈ List.range p, ((fun x => if x = h then 1 else 0) ∘ vp p ∘ fun k => C (n * p + p - 1) k) (u * p + k) = if vp p (C n u) = h then 1 else 0 := fun k hk => by
      have hk := List.mem_range.mp hk
      have hle : u * p + k ≤ n * p + p - 1 := by
        have : u * p ≤ n * p := Nat.mul_le_mul_right p (by omega)
        omega
      show (if vp p (C (n * p + p - 1) (u * p + k)) = h then 1 else 0) = _
      rw [← tm_vp hp hle hL2, tm_shift h2 hk, tm_vp hp (by omega) hL]
    rw [List.map_congr_left e2]
    clear e2
    generalize (if vp p (C n u) = h then 1 else 0) = c
    have : ∀ l : List Nat, (l.map fun _ => c).sum = l.length * c := fun l => by
      induction l with
      | nil => simp
      | cons a r ih => rw [List.map_cons, List.sum_cons, ih, List.length_cons, Nat.succ_mul]; omega
    rw [this, List.length_range]
  refine (congrArg List.sum (List.map_congr_left e1)).trans ?_
  show ((List.range (n + 1)).map fun u => p * (if vp p (C n u) = h then 1 else 0)).sum = p * ((List.range (n + 1)).map fun u => if vp p (C n u) = h then 1 else 0).sum
  generalize List.range (n + 1) = l
  induction l with
  | nil => rfl
  | cons a r ih => rw [List.map_cons, List.map_cons, List.sum_cons, List.sum_cons, ih, Nat.mul_add]
end PL
set_option maxHeartbeats 4000000
/-! texts cut, asked for in tuples; the program's own signs and primes -/
namespace PL
open PySem PySem.Spec PyProof.Rows L2 RZ
abbrev SGN : List Nat := [48, 49, 50, 51, 52, 53, 54]
abbrev PRL : List (List Nat) := [[50], [51], [53], [55]]
structure GT (K : PySem.W.Frag) (mg : Str → Option Value) : Prop where
  signs : ∃ t, mg "SIGNS" = some (.str (tx SGN) t)
  primes : ∃ a, mg "PRIMES" = some (.ref a) ∧ ∃ (o : Obj) (its : Array Value) (n : Nat), K.lookup a = some o ∧ o.cls = .type "tuple" ∧ o.data = .seq its n ∧ its.size ≤ sizeLine ∧ Vals ((PRL.map tx).map V.str) its.toList
theorem rpa_strs {K : PySem.W.Frag} {R : Hp} : ∀ (ls : List (List Nat)), RpA K R ((ls.map tx).map V.str) (ls.map tD)
  | [] => .nil
  | a :: r => .cons (.str _) (rpa_strs r)
section
variable {X : Cx} {T : Option Addr} {S : Sta} {e a o : Expr} {es : List Expr} {pos p2 p3 apos cpos : Pos} {d y : PyData}
theorem evp_signs (h : GT X.K X.mg) (hg : Gl X "SIGNS" := by rfl) : EvP X T (.Name "SIGNS" pos) S (tD SGN) := by
  obtain ⟨t, ht⟩ := h.signs
  exact evp_c (t := V.str (tx SGN)) (pe_glob hg ht ⟨t, rfl⟩) fun R => .str _
theorem evp_primes (h : GT X.K X.mg) (hg : Gl X "PRIMES" := by rfl) : EvP X T (.Name "PRIMES" pos) S (.tuple (PRL.map tD)) := by
  obtain ⟨a, ha, w⟩ := h.primes
  exact evp_c (t := V.ref a) (pe_glob hg ha rfl) fun R => .tup (.inr w) (rpa_strs PRL)
theorem evp_splitS {l s : List Nat} (ho : EvP X T o S (tD l)) (he : EvP X T e S (tD s)) (hs0 : s ≠ []) (hl : l.length + 2 ≤ sizeLine) (hk : ∀ c ∈ s, c < 256)
    (hs : starEach [e] X.env = [(false, eval e X.env)] := by rfl) (hbase : attributeBase o "split" X.env (eval o X.env) = eval o X.env := by rfl) (hline : (apos.endLine == pos.line) = true := by rfl) : EvP X T (.Call (.Attribute o "split" apos) [e] [] pos) S (.list ((TL.spl s 0 [] l).map tD)) :=
  evp_m1 F.slot_str_split F.type_str_split mt_split ho he (fun R σ H v Q I r q => by
    cases r
    have hne : TL.tl (tx s) ≠ [] := hs0
    have hkk : ¬ Builtin.Str.strKind (tx l) < Builtin.Str.strKind (tx s) := TL.kind_ok (by
      show s.toArray.all _ = true
      simp only [List.all_toArray, List.all_eq_true]
      exact fun c hc => decide_eq_true (hk c hc))
    have h1 := TL.split_spl (tx l) (tx s) hne hkk
    have h2 : (Txt.split (tx l) (tx s)) = (TL.spl s 0 [] l).map tx := by
      apply TL.map_tl_inj
      rw [h1, List.map_map]
      show TL.spl s 0 [] l = _
      have : (TL.tl ∘ tx) = (id : List Nat → List Nat) := by funext z; rfl
      rw [this, List.map_id]
    have h0 : (tx s).length ≠ 0 := by rw [tx_len]; exact fun z => hs0 (List.length_eq_zero_iff.mp z)
    refine ⟨tx l, tx s, rfl, rfl, by simpa using h0, by rw [tx_len]; exact hl, fun p hp => ?_⟩
    rw [h2]
    exact q (L2.upd R p (.lst _)) (.ref p) _ (I.laid2 hp) (Nx.laid2 I.le hp) (.lst upd_same (rpa_strs _))) hs hbase hline
theorem inV_strs {w : List Nat} : ∀ (ls : List (List Nat)), ((ls.map tx).map V.str).all flatV = true ∧ inV (V.str (tx w)) ((ls.map tx).map V.str) = decide (w ∈ ls)
  | [] => ⟨rfl, by simp [inV]⟩
  | n :: r => by
    obtain ⟨h1, h2⟩ := inV_strs (w := w) r
    refine ⟨h1, ?_⟩
    unfold inV at h2 ⊢
    rw [List.map_cons, List.map_cons, List.any_cons, h2]
    have e : eqV (V.str (tx n)) (V.str (tx w)) = decide (n = w) := by
      show decide (tx n = tx w) = _
      exact tx_eq
    rw [e]
    by_cases g : w = n
    · subst g; simp
    · rw [decide_eq_false (fun z => g z.symm)]
      simp [g]
theorem opn_notInTS {w : List Nat} {ls : List (List Nat)} : OpD X T (compareOp .NotIn) (tD w) (.tuple (ls.map tD)) (.bool (!decide (w ∈ ls))) := fun S R σ H a b Q I ra rb q => by
  cases ra
  rw [tD_strs] at rb
  cases rb with
  | @tup p xs _ h r =>
    have hxs := r.strs
    subst hxs
    obtain ⟨h1, h2⟩ := inV_strs (w := w) ls
    refine ⟨_, op_notIn_seq, p, _, rfl, .inr (le_t I.le h), rfl, h1, ?_⟩
    show Q (.bl (!inV _ _)) H
    rw [h2]
    exact q R _ H I Nx.refl (.bl _)
theorem cutS_tx {l : List Nat} {k : Nat} : cutS (tx l) none (some (k : Int)) = tx (l.take k) := by
  unfold cutS
  rw [HT.sIx_none, HT.sIx_nat, tx_len, List.drop_zero, Nat.sub_zero]
  show tx (l.take _) = _
  congr 1
  rcases Nat.le_total k l.length with g | g
  · rw [Nat.min_eq_left g]
  · rw [Nat.min_eq_right g, List.take_length, List.take_of_length_le g]
theorem cutS_txd {l : List Nat} {k : Nat} : cutS (tx l) (some (k : Int)) none = tx (l.drop k) := by
  unfold cutS
  rw [HT.sIx_none, HT.sIx_nat, tx_len]
  show tx ((l.drop _).take _) = _
  congr 1
  rcases Nat.le_total k l.length with g | g
  · rw [Nat.min_eq_left g, List.take_of_length_le (by rw [List.length_drop]; omega)]
  · rw [Nat.min_eq_right g, Nat.sub_self, List.take_zero, List.drop_eq_nil_of_le g]
theorem evp_slS1 {l : List Nat} {k : Nat} {hi : Expr} (h : EvP X T e S (tD l)) (hw : l.length ≤ sizeLine) (hu : EvP X T hi S (nD k)) : EvP X T (.Subscript e (.Slice none (some hi) none p2) pos) S (tD (l.take k)) := by
  have := evp_slS (pos := pos) (p2 := p2) h (by rw [tx_len]; exact hw) eo_none (eo_some hu)
  rwa [cutS_tx] at this
theorem evp_slS0 {l : List Nat} {k : Nat} {lo : Expr} (h : EvP X T e S (tD l)) (hw : l.length ≤ sizeLine) (hu : EvP X T lo S (nD k)) : EvP X T (.Subscript e (.Slice (some lo) none none p2) pos) S (tD (l.drop k)) := by
  have := evp_slS (pos := pos) (p2 := p2) h (by rw [tx_len]; exact hw) (eo_some hu) eo_none
  rwa [cutS_txd] at this
variable {tg : Expr}
theorem sgD_tx (l : List Nat) : sgD (tx l) = l.map fun c => tD [c] := by
  unfold sgD
  rfl
theorem eip_strL {l : List Nat} (h : EvP X T e S (tD l)) : EvIP X T tg e S (l.map fun c => tD [c]) := by
  rw [← sgD_tx]; exact eip_str h
theorem opn_strN {n : Nat} (h : n < 10) : CallD X T (.type "str") [nD n] (tD [48 + n]) := by
  have := cd_strI (X := X) (T := T) (i := (n : Int)) (by
    have : ((n : Int)).natAbs.log2 ≤ ((n : Int)).natAbs := Nat.log2_le_self _
    omega)
  have e : (toString (n : Int) : Str) = tx [48 + n] := by
    have h2 := TL.numL_lt h
    rw [← TL.tl_num] at h2
    exact TL.ext_tl h2
  rwa [e] at this
theorem cd_intN {c : Nat} (h1 : 48 ≤ c) (h2 : c < 58) : CallD X T (.type "int") [tD [c]] (nD (c - 48)) := by
  have h3 := TL.int_num (n := c - 48) (by rw [TL.numL_lt (by omega)]; show 1 ≤ 4300; decide)
  have e : (Str.ofString (toString ((c - 48 : Nat) : Int))) = tx [c] := by
    have h2 := TL.numL_lt (n := c - 48) (by omega)
    rw [← TL.tl_num, show 48 + (c - 48) = c by omega] at h2
    exact TL.ext_tl h2
  rw [e] at h3
  exact cd_intS h3 (by rw [tx_len]; show 1 ≤ 640; decide)
end
end PL
set_option maxHeartbeats 4000000
/-! numbers as texts -/
namespace PL
open PySem RZ TL
abbrev BYL : List Nat := [32, 98, 121, 32]
def dgT (p n : Nat) : List Nat := (figs p n).reverse.map (48 + ·)
def txN (p n : Nat) : List Nat := if n = 0 then [48] else dgT p n
def say (p n : Nat) : List Nat := txN p n ++ BYL ++ [48 + p]
structure okW (p : Nat) (w : List Nat) : Prop where
  ne : w ≠ []
  sg : ∀ c ∈ w, 48 ≤ c ∧ c < 48 + p
  hd : 1 < w.length → w.getD 0 0 ≠ 48
def nmW (p : Nat) (w : List Nat) : Nat := numOf p (w.reverse.map (· - 48))
theorem figs_numOf {p : Nat} (hp : 2 ≤ p) : ∀ l : List Nat, (∀ d ∈ l, d < p) → (∀ d, l.getLast? = some d → d ≠ 0) → figs p (numOf p l) = l
  | [], _, _ => by show figs p 0 = []; rw [figs_zero]
  | [d], h1, h2 => by
    have h0 : d ≠ 0 := h2 d rfl
    have hd : d < p := h1 d List.mem_cons_self
    have e : numOf p [d] = d := by show 0 * p + d = d; omega
    rw [e, figs_pos hp (by omega), Nat.mod_eq_of_lt hd, Nat.div_eq_of_lt hd, figs_zero]
  | d :: b :: r, h1, h2 => by
    have ih := figs_numOf hp (b :: r) (fun x hx => h1 x (List.mem_cons_of_mem _ hx)) (fun x hx => h2 x (by rw [List.getLast?_cons_cons]; exact hx))
    have hd : d < p := h1 d List.mem_cons_self
    have hn : 0 < numOf p (b :: r) := by
      rcases Nat.eq_zero_or_pos (numOf p (b :: r)) with z | z
      · rw [z, figs_zero] at ih; cases ih
      · exact z
    have e : numOf p (d :: b :: r) = numOf p (b :: r) * p + d := rfl
    have hpos : 0 < numOf p (b :: r) * p + d := by
      have : 0 < numOf p (b :: r) * p := Nat.mul_pos hn (by omega)
      omega
    rw [e, figs_pos hp hpos, Nat.mul_comm, Nat.mul_add_mod, Nat.mod_eq_of_lt hd, Nat.mul_add_div (by omega), Nat.div_eq_of_lt hd, Nat.add_zero, ih]
theorem dgT_len (p n : Nat) : (dgT p n).length = (figs p n).length := by unfold dgT; rw [List.length_map, List.length_reverse]
theorem dgT_mem {p n c : Nat} (hp : 2 ≤ p) (h : c ∈ dgT p n) : 48 ≤ c ∧ c < 48 + p := by
  unfold dgT at h
  obtain ⟨d, hd, rfl⟩ := List.mem_map.mp h
  have := figs_lt hp n n (Nat.le_refl _) d (List.mem_reverse.mp hd)
  show 48 ≤ 48 + d ∧ 48 + d < 48 + p
  omega
theorem figs_lastT {p : Nat} (hp : 2 ≤ p) : ∀ (m n : Nat), n ≤ m → ∀ d, (figs p n).getLast? = some d → d ≠ 0
  | 0, n, h, d, hd => by
    have : n = 0 := by omega
    subst this; rw [figs_zero] at hd; cases hd
  | m + 1, n, h, d, hd => by
    by_cases h0 : n = 0
    · subst h0; rw [figs_zero] at hd; cases hd
    · rw [figs_pos hp (by omega)] at hd
      have h2 : n / p < n := Nat.div_lt_self (by omega) (by omega)
      by_cases g : n / p = 0
      · rw [g, figs_zero] at hd
        have e : n % p = d := Option.some.inj hd
        have : n < p := by
          rcases Nat.lt_or_ge n p with w | w
          · exact w
          · have := Nat.div_pos w (by omega); omega
        rw [Nat.mod_eq_of_lt this] at e
        omega
      · have g0 := Nat.pos_of_ne_zero g
        have e2 := figs_pos hp g0
        rw [e2, List.getLast?_cons_cons, ← e2] at hd
        exact figs_lastT hp m (n / p) (by omega) d hd
theorem figs_ne {p n : Nat} (hp : 2 ≤ p) (h : n ≠ 0) : figs p n ≠ [] := by
  rw [figs_pos hp (by omega)]; simp
theorem okW_txN {p : Nat} (hp : 2 ≤ p) (n : Nat) : okW p (txN p n) := by
  unfold txN
  by_cases h : n = 0
  · rw [if_pos h]
    exact ⟨by simp, fun c hc => by have : c = 48 := by simpa using hc
                                   omega, fun w => by simp at w⟩
  · rw [if_neg h]
    refine ⟨fun z => ?_, fun c hc => dgT_mem hp hc, fun _ => ?_⟩
    · have := congrArg List.length z
      rw [dgT_len] at this
      exact figs_ne hp h (List.length_eq_zero_iff.mp this)
    · unfold dgT
      cases e : (figs p n).getLast? with
      | none => exact absurd (List.getLast?_eq_none_iff.mp e) (figs_ne hp h)
      | some d =>
        have h0 := figs_lastT hp n n (Nat.le_refl _) d e
        rw [List.getD_eq_getElem?_getD, List.getElem?_map, ← List.head?_eq_getElem?, List.head?_reverse, e]
        show 48 + d ≠ 48
        omega
theorem okW_num {p : Nat} {w : List Nat} (hp : 2 ≤ p) (h : okW p w) : w = txN p (nmW p w) := by
  have hback : ((w.reverse.map (· - 48)).reverse.map (48 + ·)) = w := by
    rw [← List.map_reverse, List.reverse_reverse, List.map_map]
    have : ∀ c ∈ w, ((48 + ·) ∘ (· - 48)) c = c := fun c hc => by
      have := h.sg c hc
      show 48 + (c - 48) = c
      omega
    rw [List.map_congr_left this]; simp
  by_cases g : ∀ d, (w.reverse.map (· - 48)).getLast? = some d → d ≠ 0
  · have hf := figs_numOf hp (w.reverse.map (· - 48)) (fun d hd => by
      obtain ⟨c, hc, rfl⟩ := List.mem_map.mp hd
      have := h.sg c (List.mem_reverse.mp hc)
      show c - 48 < p
      omega) g
    have hn : nmW p w ≠ 0 := fun z => by
      unfold nmW at z
      rw [z, figs_zero] at hf
      have := congrArg List.length hf
      rw [List.length_map, List.length_reverse] at this
      exact h.ne (List.length_eq_zero_iff.mp this.symm)
    unfold txN
    rw [if_neg hn]
    unfold dgT nmW
    rw [hf, hback]
  · have g' : ∃ d, (w.reverse.map (· - 48)).getLast? = some d ∧ d = 0 := Classical.byContradiction fun z => g fun d hd h0 => z ⟨d, hd, h0⟩
    obtain ⟨d, hd, h0⟩ := g'
    rw [List.getLast?_map, List.getLast?_reverse] at hd
    cases w with
    | nil => cases hd
    | cons c r =>
      have e : c - 48 = d := Option.some.inj hd
      have hc := h.sg c List.mem_cons_self
      have ec : c = 48 := by omega
      subst ec
      cases r with
      | nil =>
        have e0 : nmW p [48] = 0 := by show 0 * p + 0 = 0; rw [Nat.zero_mul]
        unfold txN
        rw [e0, if_pos rfl]
      | cons b r => exact absurd rfl (h.hd (by simp))
theorem nm_txN {p : Nat} (hp : 2 ≤ p) (n : Nat) : nmW p (txN p n) = n := by
  unfold nmW txN
  by_cases h : n = 0
  · rw [if_pos h, h]; show 0 * p + 0 = 0; rw [Nat.zero_mul]
  · rw [if_neg h]
    unfold dgT
    rw [← List.map_reverse, List.reverse_reverse, List.map_map]
    have : ∀ d ∈ figs p n, ((· - 48) ∘ (48 + ·)) d = d := fun d _ => by
      show 48 + d - 48 = d
      omega
    rw [List.map_congr_left this]
    simp [numOf_figs' hp]
/-- what text is a number's -/
def isSay (l : List Nat) : Prop := ∃ p n, Pr p ∧ l = say p n
theorem isSay_iff {l : List Nat} : isSay l ↔ ∃ p w, Pr p ∧ okW p w ∧ l = w ++ BYL ++ [48 + p] := by
  constructor
  · rintro ⟨p, n, hp, rfl⟩
    exact ⟨p, txN p n, hp, okW_txN (Pr_two hp) n, rfl⟩
  · rintro ⟨p, w, hp, h, rfl⟩
    exact ⟨p, nmW p w, hp, by unfold say; rw [← okW_num (Pr_two hp) h]⟩
theorem app_inj5 {w w' : List Nat} {a b : Nat} (h : w ++ BYL ++ [a] = w' ++ BYL ++ [b]) : w = w' ∧ a = b := by
  have h1 := congrArg List.reverse h
  simp only [List.reverse_append, List.reverse_cons, List.reverse_nil, List.nil_append, List.cons_append] at h1
  injection h1 with h2 h3
  injection h3 with _ h3
  injection h3 with _ h3
  injection h3 with _ h3
  injection h3 with _ h3
  exact ⟨List.reverse_inj.mp h3, h2⟩
theorem say_inj {p q n m : Nat} (hp : Pr p) (h : say p n = say q m) : p = q ∧ n = m := by
  have := app_inj5 h
  have e : p = q := by omega
  subst e
  exact ⟨rfl, by rw [← nm_txN (Pr_two hp) n, this.1, nm_txN (Pr_two hp)]⟩
/-! the words of a text -/
theorem spl_say {w : List Nat} {a : Nat} (hw : 32 ∉ w) (ha : a ≠ 32) : spl BYL 0 [] (w ++ BYL ++ [a]) = [w, [a]] := by
  rw [List.append_assoc]
  have h1 := spl_part1 (s := 32) (S := [98, 121, 32]) (acc := []) (rest := [a]) hw
  have h2 := spl_last1 (s := 32) (S := [98, 121, 32]) (acc := []) (p := [a]) (by simpa using fun z => ha z.symm)
  rw [h2] at h1
  exact h1
theorem spl_ne (S : List Nat) : ∀ (k : Nat) (acc l : List Nat), spl S k acc l ≠ []
  | k, acc, [] => by rw [spl_nil]; simp
  | 0, acc, c :: r => by
    by_cases h : pre S (c :: r) = true
    · rw [spl_hit h]; simp
    · rw [spl_miss (by simpa using h)]; exact spl_ne S 0 (acc ++ [c]) r
  | k + 1, acc, c :: r => by
    show spl S k acc r ≠ []
    exact spl_ne S k acc r
theorem join_spl {S : List Nat} (hS : S ≠ []) : ∀ (n : Nat) (acc l : List Nat), l.length ≤ n → joinL S (spl S 0 acc l) = acc ++ l
  | 0, acc, l, h => by
    have : l = [] := List.length_eq_zero_iff.mp (by omega)
    subst this
    rw [spl_nil]
    show acc = acc ++ []
    rw [List.append_nil]
  | n + 1, acc, [], h => by rw [spl_nil]; show acc = acc ++ []; rw [List.append_nil]
  | n + 1, acc, c :: r, h => by
    by_cases g : pre S (c :: r) = true
    · rw [spl_hit g, spl_pass]
      have e : (c :: r).take S.length = S := eq_of_beq g
      have hl : 0 < S.length := List.length_pos_iff.mpr hS
      have e2 : r.drop (S.length - 1) = (c :: r).drop S.length := by
        obtain ⟨m, hm⟩ : ∃ m, S.length = m + 1 := ⟨S.length - 1, by omega⟩
        rw [hm]; rfl
      have ih := join_spl hS n [] ((c :: r).drop S.length) (by rw [List.length_drop, List.length_cons] at *; omega)
      rw [e2]
      cases hs : spl S 0 [] ((c :: r).drop S.length) with
      | nil => exact absurd hs (spl_ne _ _ _ _)
      | cons q t =>
        rw [hs] at ih
        show acc ++ (S ++ joinL S (q :: t)) = acc ++ (c :: r)
        rw [ih, List.nil_append]
        have := List.take_append_drop S.length (c :: r)
        rw [e] at this
        rw [this]
    · rw [spl_miss (by simpa using g), join_spl hS n (acc ++ [c]) r (by simpa using h), List.append_assoc]; rfl
theorem spl_two {l w v : List Nat} (h : spl BYL 0 [] l = [w, v]) : l = w ++ BYL ++ v := by
  have := join_spl (S := BYL) (by simp) l.length [] l (Nat.le_refl _)
  rw [h] at this
  rw [List.append_assoc]
  exact this.symm
theorem ok_no32 {p : Nat} {w : List Nat} (h : okW p w) : 32 ∉ w := fun z => by have := h.sg 32 z; omega
end PL
set_option maxHeartbeats 4000000
namespace PL
open PySem PySem.Spec PyProof.Rows L2 RZ
def sp_written : SpD := spE e2 (fun a => a.1 < 2 ^ 200 ∧ Pr a.2) fun a => tD (say a.2 a.1)
def sp_read : SpD := spE (fun a : Nat × Nat => [tD (say a.2 a.1)]) (fun a => a.1 < 2 ^ 200 ∧ Pr a.2) fun a => .tuple [nD a.1, nD a.2]
def sp_row_text : SpD := spE (fun l : List Nat => [eT l]) (fun l => (∀ x ∈ l, x < 10) ∧ l.length ≤ 100000) fun l => tD (l.map (48 + ·))
theorem txN_eq (p n : Nat) : (if n = 0 then [0] else (figs p n).reverse).map (48 + ·) = txN p n := by
  unfold txN dgT
  by_cases h : n = 0
  · rw [if_pos h, if_pos h]; rfl
  · rw [if_neg h, if_neg h]
theorem txN_len {p n k : Nat} (hp : 2 ≤ p) (h : n < 2 ^ k) (hk : 0 < k) : (txN p n).length ≤ k := by
  unfold txN
  split
  · exact hk
  · rw [dgT_len]; exact figs_len hp k n h
theorem pr_prl {p : Nat} (h : Pr p) : [48 + p] ∈ PRL := by
  rcases h with rfl | rfl | rfl | rfl <;> decide
theorem prl_pr {v : List Nat} (h : v ∈ PRL) : ∃ p, Pr p ∧ v = [48 + p] := by
  simp only [List.mem_cons, List.not_mem_nil, or_false] at h
  rcases h with rfl | rfl | rfl | rfl
  · exact ⟨2, .inl rfl, rfl⟩
  · exact ⟨3, .inr (.inl rfl), rfl⟩
  · exact ⟨5, .inr (.inr (.inl rfl)), rfl⟩
  · exact ⟨7, .inr (.inr (.inr rfl)), rfl⟩
theorem sgn_take {p c : Nat} (hp : Pr p) : c ∈ SGN.take p ↔ 48 ≤ c ∧ c < 48 + p := by
  constructor
  · intro h
    rcases hp with rfl | rfl | rfl | rfl <;> (simp at h; omega)
  · intro h
    obtain ⟨d, rfl⟩ := Nat.exists_eq_add_of_le h.1
    rcases hp with rfl | rfl | rfl | rfl
    · have : d = 0 ∨ d = 1 := by omega
      rcases this with rfl | rfl <;> decide
    · have : d = 0 ∨ d = 1 ∨ d = 2 := by omega
      rcases this with rfl | rfl | rfl <;> decide
    · have : d = 0 ∨ d = 1 ∨ d = 2 ∨ d = 3 ∨ d = 4 := by omega
      rcases this with rfl | rfl | rfl | rfl | rfl <;> decide
    · have : d = 0 ∨ d = 1 ∨ d = 2 ∨ d = 3 ∨ d = 4 ∨ d = 5 ∨ d = 6 := by omega
      rcases this with rfl | rfl | rfl | rfl | rfl | rfl | rfl <;> decide
end PL
set_option maxHeartbeats 4000000
/-! reading texts, as the laws do it -/
namespace PL
open PySem PySem.Spec PyProof.Rows L2 RZ
open Classical in
noncomputable def rdS (l : List Nat) : Option (Nat × Nat) := if h : ∃ a : Nat × Nat, Pr a.2 ∧ l = say a.2 a.1 then some (Classical.choose h) else none
theorem rdS_say {p n : Nat} (hp : Pr p) : rdS (say p n) = some (n, p) := by
  have h : ∃ a : Nat × Nat, Pr a.2 ∧ say p n = say a.2 a.1 := ⟨(n, p), hp, rfl⟩
  unfold rdS
  rw [dif_pos h]
  have hc := Classical.choose_spec h
  obtain ⟨e1, e2⟩ := say_inj hp hc.2
  congr 1
  exact Prod.ext e2.symm e1.symm
theorem rdS_none {l : List Nat} (h : ¬ isSay l) : rdS l = none := by
  unfold rdS
  rw [dif_neg]
  rintro ⟨a, h1, h2⟩
  exact h ⟨a.2, a.1, h1, h2⟩
def rdT : Option (Nat × Nat) → PyData
  | none => .none
  | some a => .tuple [nD a.1, nD a.2]
def orD : Option (Nat × Nat) → PyData
  | none => .str "refused"
  | some a => .tuple [nD a.1, nD a.2]
theorem nmW_snoc (p : Nat) (u : List Nat) (c : Nat) : nmW p (u ++ [c]) = nmW p u * p + (c - 48) := by
  unfold nmW
  rw [List.reverse_append]; rfl
theorem rdS_app {p : Nat} {w : List Nat} (hp : Pr p) : rdS (w ++ BYL ++ [48 + p]) = if say p (nmW p w) = w ++ BYL ++ [48 + p] then some (nmW p w, p) else none := by
  by_cases h : isSay (w ++ BYL ++ [48 + p])
  · obtain ⟨q, n, hq, e⟩ := h
    have e2 := app_inj5 e
    have eq : p = q := by omega
    subst eq
    have hn : nmW p w = n := by rw [e2.1, nm_txN (Pr_two hp)]
    rw [e, rdS_say hp, hn, if_pos rfl]
  · rw [rdS_none h, if_neg fun w => h ⟨p, _, hp, w.symm⟩]
theorem rdS_bad {p : Nat} {w : List Nat} (h : ¬ okW p w) : rdS (w ++ BYL ++ [48 + p]) = none := rdS_none fun z => by
  obtain ⟨q, v, hq, hv, e⟩ := isSay_iff.mp z
  have e2 := app_inj5 e
  have eq : p = q := by omega
  subst eq
  rw [e2.1] at h
  exact h hv
theorem say_small {p n k : Nat} (hp : Pr p) (hk : k ≤ 65) (h : (say p n).length ≤ k + 5) : n < 2 ^ 200 := by
  have h2 := Pr_two hp
  have h7 := Pr_seven hp
  have hl : (txN p n).length ≤ k := by
    unfold say at h
    simp at h
    omega
  rw [← nm_txN h2 n]
  unfold nmW
  have ho := okW_txN h2 n
  have h1 := numOf_lt (p := p) (l := (txN p n).reverse.map (· - 48)) fun d hd => by
    obtain ⟨c, hc, rfl⟩ := List.mem_map.mp hd
    have := ho.sg c (List.mem_reverse.mp hc)
    show c - 48 < p
    omega
  rw [List.length_map, List.length_reverse] at h1
  have h3 : p ^ (txN p n).length ≤ 7 ^ 65 := Nat.le_trans (Nat.pow_le_pow_left h7 _) (Nat.pow_le_pow_right (by omega) (by omega))
  have : 7 ^ 65 < 2 ^ 200 := by decide
  omega
theorem endsW_iff {l s : List Nat} : Txt.endswith (tx l) (tx s) = true ↔ ∃ w, l = w ++ s := by
  unfold Txt.endswith
  rw [Bool.and_eq_true, decide_eq_true_eq, PySem.StrLaws.subAt_eq, tx_len, tx_len]
  show (0 + s.length ≤ l.length ∧ ((l.drop (l.length - s.length)).take s.length == s) = true) ↔ _
  constructor
  · rintro ⟨h1, h2⟩
    have h2 := eq_of_beq h2
    rw [List.take_of_length_le (by rw [List.length_drop]; omega)] at h2
    exact ⟨l.take (l.length - s.length), by rw [← h2, List.length_drop]; rw [show l.length - (l.length - (l.length - s.length)) = l.length - s.length by omega]; exact (List.take_append_drop _ l).symm⟩
  · rintro ⟨w, rfl⟩
    rw [List.length_append]
    refine ⟨by omega, ?_⟩
    rw [Nat.add_sub_cancel, List.drop_left, List.take_length]
    exact beq_self_eq_true s
theorem cutS_neg {l : List Nat} {k : Nat} (hk : 0 < k) : cutS (tx l) none (some (-(k : Int))) = tx (l.take (l.length - k)) := by
  unfold cutS
  rw [HT.sIx_none, tx_len]
  have e : HT.sIx l.length l.length (some (-(k : Int))) = l.length - k := by
    show (if -(k : Int) < 0 then (-(k : Int) + (l.length : Int)).toNat else min (-(k : Int)).toNat l.length) = _
    rw [if_pos (by omega)]; omega
  rw [e, List.drop_zero, Nat.sub_zero]
section
variable {X : Cx} {T : Option Addr} {S : Sta} {e a o : Expr} {es : List Expr} {pos p2 p3 apos cpos : Pos} {d y : PyData}
theorem evp_endsS {l s : List Nat} (ho : EvP X T o S (tD l)) (he : EvP X T e S (tD s))
    (hs : starEach [e] X.env = [(false, eval e X.env)] := by rfl) (hbase : attributeBase o "endswith" X.env (eval o X.env) = eval o X.env := by rfl) (hline : (apos.endLine == pos.line) = true := by rfl) : EvP X T (.Call (.Attribute o "endswith" apos) [e] [] pos) S (.bool (Txt.endswith (tx l) (tx s))) :=
  evp_m1 F.slot_str_endswith F.type_str_endswith mt_endswith ho he (fun R σ H v Q I r q => by
    cases r
    exact ⟨tx l, tx s, rfl, rfl, q R _ H I Nx.refl (.bl _)⟩) hs hbase hline
theorem evp_slSn {l : List Nat} {k : Nat} {hi : Expr} (h : EvP X T e S (tD l)) (hw : l.length ≤ sizeLine) (hu : EvP X T hi S (.int (-(k : Int)))) (hk : 0 < k) : EvP X T (.Subscript e (.Slice none (some hi) none p2) pos) S (tD (l.take (l.length - k))) := by
  have := evp_slS (pos := pos) (p2 := p2) h (by rw [tx_len]; exact hw) eo_none (eo_some hu)
  rwa [cutS_neg hk] at this
end
/-! picking of a list or a text -/
def spPickG : SpT := fun ss b κ => ∃ (ns : List Int) (x : PyData) (b' : Nat), ss = [.scr ns, .town, .dat x] ∧ ((∃ ds, x = .list ds ∧ 0 < ds.length ∧ b = b' + 1 ∧ ∀ d ∈ ds, κ d b') ∨ ∃ l : List Nat, x = tD l ∧ 0 < l.length ∧ l.length ≤ 1000 ∧ b = b' + 1 ∧ ∀ c ∈ l, κ (tD [c]) b')
theorem mono_pickG : MonoT spPickG := fun ds b κ κ' h ⟨ns, x, b', e, k⟩ => ⟨ns, x, b', e, k.imp (fun ⟨ds, e1, h0, eb, k⟩ => ⟨ds, e1, h0, eb, fun d hd => h _ _ (k d hd)⟩) fun ⟨l, e1, h0, h1, eb, k⟩ => ⟨l, e1, h0, h1, eb, fun c hc => h _ _ (k c hc)⟩⟩
section
variable {X : Cx} {t : Addr} {S : Sta} {e : Expr} {pos p p1 p2 : Pos} {κ : PyData → Nat → Prop} {k : Nat} {x y n : Str}
theorem ev_pickG {ds : List PyData} {b' : Nat} {ns : List Int} (C : CalleeT X.prog X.w X.K X.mg X.base n k spPickG) (hr : Room k X.A) (i j : Nat) (hi : S.sl[i]? = some (some (.scr ns))) (hj : S.sl[j]? = some (some .town)) (he : EvP X (some t) e S (.list ds)) (h0 : 0 < ds.length) (hb : S.b = b' + 1) (q : ∀ d ∈ ds, κ d b')
    (hN1 : X.N[i]? = some x := by rfl) (hN2 : X.N[j]? = some y := by rfl) (hv1 : VisD X x := by first | exact Or.inl rfl | exact Or.inr (Or.inl rfl) | exact Or.inr (Or.inr rfl)) (hv2 : VisD X y := by first | exact Or.inl rfl | exact Or.inr (Or.inl rfl) | exact Or.inr (Or.inr rfl))
    (hg : Gl X n := by rfl) (hdb : (n == ("__debug__" : Str)) = false := by decide) (hd1 : (x == ("__debug__" : Str)) = false := by decide) (hd2 : (y == ("__debug__" : Str)) = false := by decide) (hc1 : (x == ("__classdict__" : Str)) = false := by decide) (hc2 : (y == ("__classdict__" : Str)) = false := by decide)
    (hs1 : starEach [.Name x p1, .Name y p2, e] X.env = (false, eval (.Name x p1) X.env) :: starEach [.Name y p2, e] X.env := by rfl) (hs2 : starEach [.Name y p2, e] X.env = (false, eval (.Name y p2) X.env) :: starEach [e] X.env := by rfl) (hs3 : starEach [e] X.env = (false, eval e X.env) :: starEach [] X.env := by rfl)
    (hpl : (backTo pos (starEach [.Name y p2, e] X.env)).any (·.1) = false := by rfl) : Ev X (some t) (.Call (.Name n p) [.Name x p1, .Name y p2, e] [] pos) S κ :=
  ev_fnT C hr (evb_name i hi (evb_name j hj (evb_dat (Ev.k he (evb_nil ⟨ns, _, b', rfl, .inl ⟨ds, rfl, h0, hb, q⟩⟩)) hs3) hN2 hv2 hd2 hc2 hs2) hN1 hv1 hd1 hc1 hs1) hg hdb hs1 hpl
theorem ev_pickS {l : List Nat} {b' : Nat} {ns : List Int} (C : CalleeT X.prog X.w X.K X.mg X.base n k spPickG) (hr : Room k X.A) (i j : Nat) (hi : S.sl[i]? = some (some (.scr ns))) (hj : S.sl[j]? = some (some .town)) (he : EvP X (some t) e S (tD l)) (h0 : 0 < l.length ∧ l.length ≤ 1000) (hb : S.b = b' + 1) (q : ∀ c ∈ l, κ (tD [c]) b')
    (hN1 : X.N[i]? = some x := by rfl) (hN2 : X.N[j]? = some y := by rfl) (hv1 : VisD X x := by first | exact Or.inl rfl | exact Or.inr (Or.inl rfl) | exact Or.inr (Or.inr rfl)) (hv2 : VisD X y := by first | exact Or.inl rfl | exact Or.inr (Or.inl rfl) | exact Or.inr (Or.inr rfl))
    (hg : Gl X n := by rfl) (hdb : (n == ("__debug__" : Str)) = false := by decide) (hd1 : (x == ("__debug__" : Str)) = false := by decide) (hd2 : (y == ("__debug__" : Str)) = false := by decide) (hc1 : (x == ("__classdict__" : Str)) = false := by decide) (hc2 : (y == ("__classdict__" : Str)) = false := by decide)
    (hs1 : starEach [.Name x p1, .Name y p2, e] X.env = (false, eval (.Name x p1) X.env) :: starEach [.Name y p2, e] X.env := by rfl) (hs2 : starEach [.Name y p2, e] X.env = (false, eval (.Name y p2) X.env) :: starEach [e] X.env := by rfl) (hs3 : starEach [e] X.env = (false, eval e X.env) :: starEach [] X.env := by rfl)
    (hpl : (backTo pos (starEach [.Name y p2, e] X.env)).any (·.1) = false := by rfl) : Ev X (some t) (.Call (.Name n p) [.Name x p1, .Name y p2, e] [] pos) S κ :=
  ev_fnT C hr (evb_name i hi (evb_name j hj (evb_dat (Ev.k he (evb_nil ⟨ns, _, b', rfl, .inr ⟨l, rfl, h0.1, h0.2, hb, q⟩⟩)) hs3) hN2 hv2 hd2 hc2 hs2) hN1 hv1 hd1 hc1 hs1) hg hdb hs1 hpl
end
theorem nats_lt {k : Nat} : ∀ {ds : List PyData}, (∀ d ∈ ds, ∃ n, d = nD n ∧ n < k) → ∃ ls : List Nat, ds = ls.map nD ∧ ∀ x ∈ ls, x < k
  | [], _ => ⟨[], rfl, fun x hx => by cases hx⟩
  | d :: r, h => by
    obtain ⟨n, rfl, hn⟩ := h d List.mem_cons_self
    obtain ⟨ls, rfl, hl⟩ := nats_lt fun x hx => h x (List.mem_cons_of_mem _ hx)
    refine ⟨n :: ls, rfl, fun x hx => ?_⟩
    rcases List.mem_cons.mp hx with e | e
    · rw [e]; exact hn
    · exact hl x e
theorem sgn_get {y : Nat} (h : y < 7) : (tx SGN).cps.toList[y]? = some (48 + y) := by
  have : y = 0 ∨ y = 1 ∨ y = 2 ∨ y = 3 ∨ y = 4 ∨ y = 5 ∨ y = 6 := by omega
  rcases this with rfl | rfl | rfl | rfl | rfl | rfl | rfl <;> rfl
end PL
set_option maxHeartbeats 4000000
/-! data that is like itself -/
namespace PL
open PySem PySem.Spec PyProof.Rows L2 RZ
def nc : Nat → PyData → Bool
  | _, .none => true
  | _, .bool _ => true
  | _, .int _ => true
  | _, .str s => PyData.strOk s
  | n + 1, .list ds => ds.all (nc n)
  | n + 1, .tuple ds => ds.all (nc n)
  | _, _ => false
theorem nc_all {n : Nat} (ih : ∀ d, nc n d = true → PyData.canLay0 d = true ∧ PyData.depth d ≤ n ∧ d.plain = true) : ∀ ds : List PyData, ds.all (nc n) = true → PyData.canLayAll0 ds = true ∧ PyData.depthAll ds ≤ n ∧ PyData.plainAll ds = true
  | [], _ => ⟨rfl, Nat.zero_le _, rfl⟩
  | d :: ds, h => by
    rw [List.all_cons, Bool.and_eq_true] at h
    obtain ⟨a1, a2, a3⟩ := ih d h.1
    obtain ⟨b1, b2, b3⟩ := nc_all ih ds h.2
    refine ⟨?_, ?_, ?_⟩
    · show (PyData.canLay0 d && PyData.canLayAll0 ds) = true
      rw [a1, b1]; rfl
    · show max (PyData.depth d) (PyData.depthAll ds) ≤ n
      omega
    · show (d.plain && PyData.plainAll ds) = true
      rw [a3, b3]; rfl
theorem nc_ok : ∀ (n : Nat) (d : PyData), nc n d = true → PyData.canLay0 d = true ∧ PyData.depth d ≤ n ∧ d.plain = true
  | 0, d, h => by
    cases d with
    | none => exact ⟨rfl, Nat.zero_le _, rfl⟩
    | bool b => exact ⟨rfl, Nat.zero_le _, rfl⟩
    | int b => exact ⟨rfl, Nat.zero_le _, rfl⟩
    | str b => exact ⟨h, Nat.zero_le _, rfl⟩
    | list b => cases h
    | tuple b => cases h
    | dict b => cases h
  | n + 1, d, h => by
    cases d with
    | none => exact ⟨rfl, Nat.zero_le _, rfl⟩
    | bool b => exact ⟨rfl, Nat.zero_le _, rfl⟩
    | int b => exact ⟨rfl, Nat.zero_le _, rfl⟩
    | str b => exact ⟨h, Nat.zero_le _, rfl⟩
    | list ds =>
      obtain ⟨a, b, c⟩ := nc_all (nc_ok n) ds h
      exact ⟨a, by show PyData.depthAll ds + 1 ≤ n + 1; omega, c⟩
    | tuple ds =>
      obtain ⟨a, b, c⟩ := nc_all (nc_ok n) ds h
      exact ⟨a, by show PyData.depthAll ds + 1 ≤ n + 1; omega, c⟩
    | dict b => cases h
theorem nc_N (n : Nat) (ns : List Nat) : nc (n + 1) (.tuple (ns.map nD)) = true := by
  show (ns.map nD).all (nc n) = true
  rw [List.all_map, List.all_eq_true]
  intro x _
  cases n <;> rfl
theorem nc_o (n : Nat) (o : Option Nat) : nc n (oD o) = true := by
  cases o <;> cases n <;> rfl
theorem nc_pr (n : Nat) (l : List (Nat × Nat)) : nc (n + 2) (.tuple (prL l)) = true := by
  show (l.map pairD).all (nc (n + 1)) = true
  rw [List.all_map, List.all_eq_true]
  intro x _
  exact nc_N n [x.1, x.2]
theorem nc_T (n : Nat) {ls : List (List Nat)} (h : ∀ l ∈ ls, signOk l = true) : nc (n + 1) (.tuple (ls.map tD)) = true := by
  show (ls.map tD).all (nc n) = true
  rw [List.all_map, List.all_eq_true]
  intro x hx
  have := h x hx
  unfold signOk at this
  cases n <;> exact this
theorem nc_t (n : Nat) {l : List Nat} (h : ∀ c ∈ l, c < 128) : nc n (tD l) = true := by
  have := signOk_of h
  unfold signOk at this
  cases n <;> exact this
section
variable {X : Cx} {T : Option Addr}
theorem opn_neSelf {d : PyData} {n : Nat} (hu : X.A.units + 64 < cLine) (h : nc n d = true) (hn : n ≤ 60) : OpD X T (compareOp .NotEq) d d (.bool false) := by
  obtain ⟨a, b, c⟩ := nc_ok n d h
  have hs : SeqAt.shaped d = true := by
    unfold SeqAt.shaped
    rw [Bool.and_eq_true, decide_eq_true_eq]
    exact ⟨a, by omega⟩
  have := opd_neD (X := X) (T := T) hu hs hs
  rw [PySem.SeqAt.eqv_refl_plain d c] at this
  exact this
end
/-! what law_k40 asks -/
def fstD (n m p : Nat) : List PyData := [eT (figs p n), nD (numOf p [1, 0, 1]), nD (figs p n).sum] ++ [eT (cyL p n m), nD (leg p n)] ++ [nD (CZ n (m : Int) % p), oD (pwr p n (m : Int))] ++ [oD (corZ p n (m : Int) 2), nD (CZ n (m : Int) % p ^ 3)] ++ [nD (mC 0 [n, m] % p), nD (vp p (mC 0 [n, m]))] ++ [nD (PL.cnt p n), nD (plc p n 0), eT (rsL p n)] ++ [nD (nA p n m), nD (ffr p n)] ++ [.bool (decide (PL.cnt p n = n + 1)), nD (bel p n), nD (gpN p n)] ++ [nD (wpw p n 1), .tuple [nD n, nD p]]
def sndD (n k p : Nat) : List PyData := [nD (CZ n (k : Int)), nD (mC 0 [n, k]), eT (rwL p n)] ++ [.tuple (prL (nsS p n (n + 1))), eT (vpL p n), nD (idv n)] ++ [nD (cmul n), eT (rowC n), eT (ssL n 3 10)] ++ [nD (C (n + 1) (k + 1) % p), .int (fsZ p k n)] ++ [nD (C (2 * n) n % p), nD (fib n % 9), .tuple ((shA p (p ^ 1)).map tD)] ++ [nD (RUZ n (k : Int) 2 3 % 11), nD (brk p n)] ++ [.bool (decide (srt (rwL p n) = srt (rwL p k))), oD (nxP p n k)] ++ [tD ((rwL p n).map (48 + ·))]
theorem nc_n (n k : Nat) : nc n (nD k) = true := by cases n <;> rfl
theorem nc_i (n : Nat) (k : Int) : nc n (.int k) = true := by cases n <;> rfl
theorem nc_b (n : Nat) (b : Bool) : nc n (.bool b) = true := by cases n <;> rfl
theorem nc_p (n a b : Nat) : nc (n + 1) (.tuple [nD a, nD b]) = true := nc_N n [a, b]
theorem nc_fst (n m p : Nat) : nc 4 (.list (fstD n m p)) = true := by
  show (fstD n m p).all (nc 3) = true
  unfold fstD
  simp only [List.all_append, List.all_cons, List.all_nil, nc_N, nc_o, nc_n, nc_b, nc_p, Bool.and_self]
theorem rwL_small {p n : Nat} (h : Pr p) : ∀ x ∈ rwL p n, x < 10 := fun x hx => by
  unfold rwL at hx
  obtain ⟨k, _, rfl⟩ := List.mem_map.mp hx
  have h2 := Pr_two h
  have h7 := Pr_seven h
  have := Nat.mod_lt (C n k) (show 0 < p by omega)
  omega
theorem nc_snd {n k p : Nat} (hp : Pr p) : nc 4 (.list (sndD n k p)) = true := by
  show (sndD n k p).all (nc 3) = true
  unfold sndD
  have ht : nc 3 (tD ((rwL p n).map (48 + ·))) = true := nc_t 3 fun c hc => by
    obtain ⟨x, hx, rfl⟩ := List.mem_map.mp hc
    have := rwL_small hp x hx
    omega
  simp only [List.all_append, List.all_cons, List.all_nil, nc_N, nc_o, nc_n, nc_b, nc_p, nc_i, nc_pr, nc_T 2 signOk_sh, ht, Bool.and_self]
end PL
set_option maxHeartbeats 4000000
/-! where a mark has been given out: replace on texts -/
namespace PL
open PySem PySem.Spec PyProof.Rows L2 RZ
section
variable (X : Cx)
def wpSsT (st : List Stmt) : TS := fun D σ H => ∀ pins s, 1 ≤ s.toks → Inv X pins σ H s → wpAny (model X.prog X.w) X.A (execs st X.env) (SP X pins D) X.xe s
def wpET (e : Expr) : TE := fun σ H Q => ∀ pins s, 1 ≤ s.toks → Inv X pins σ H s → wpAny (model X.prog X.w) X.A (eval e X.env) (EP X pins σ Q) X.xe s
def wpAT (es : List Expr) : TA := fun σ H Q => ∀ (pos : Pos) pins s, 1 ≤ s.toks → Inv X pins σ H s → wpAny (model X.prog X.w) X.A (spliced (backTo pos (starEach es X.env))) (AP X pins σ Q) X.xe s
end
section
variable {X : Cx} {T : Option Addr} {S : Sta} {k : KD} {e a b c tg o : Expr} {es : List Expr} {st : Stmt} {rest : List Stmt} {pos pos' apos c0 c1 p1 p2 p3 : Pos} {d : PyData} {ds : List PyData}
theorem pet_wp : PET X e (wpET X e) := fun pins s σ H Q h0 I h => h pins s h0 I
theorem pat_wp : PAT X es (wpAT X es) := fun pos pins s σ H Q h0 I h => h pos pins s h0 I
def RunT (X : Cx) (T : Option Addr) (sts : List Stmt) (S : Sta) (k : KD) : Prop := ∀ (B : Bs) (R : Hp) (σ : L2.St) (H : Hp), HS X.K B T S R σ H → ∀ D : Ends, Lift X.K B T k D → wpSsT X sts D σ H
theorem runt_of (h : Run X T rest S k) : RunT X T rest S k := fun B R σ H I D L pins s _ J => h B R σ H I D L pins s J
theorem execs_one (st : Stmt) (env : Env) : execs [st] env = exec st env := by
  rw [execs_cons]
  conv => rhs; rw [← bind_pure (exec st env)]
  congr 1
  funext f
  cases f <;> rfl
theorem runt_cons (h : Run X T [st] S { nx := fun S' => RunT X T rest S' k, rt := k.rt, bk := k.bk, ct := k.ct }) : RunT X T (st :: rest) S k := fun B R σ H I D L pins s h0 J => by
  have h1 := h B R σ H I { D with nx := wpSsT X rest D } ⟨fun S2 R2 σ2 H2 q I2 => q B R2 σ2 H2 I2 D L, L.bk, L.ct, L.rt⟩ pins s J
  rw [execs_one] at h1
  refine wpAny_execs_cons (wpAny_mono (PySem.wpAny_toks h1) (fun f s1 q => ?_) fun _ _ z => z.2)
  obtain ⟨hk, q⟩ := q
  cases f with
  | next => obtain ⟨σ', H', I', q⟩ := q; exact q pins s1 (Nat.le_trans h0 hk) I'
  | ret v => exact q
  | brk => exact q
  | cont => exact q
/-! a, b = e, 'a text': behind it a mark is out -/
theorem par_tok {i j : Nat} {x y w : Str} {a : Expr} {jk : Nat} {ta : TE} {px py pt : Pos} {kt k2 pt2} {pins : List (Addr × Obj)} {s : Shared} {σ : L2.St} {H : Hp} {D : Ends} (hc : X.calm = true) (hN : X.N.Nodup) (hi : X.N[i]? = some x) (hj : X.N[j]? = some y) (hij : i ≠ j)
    (hx : X.env.scope.names.lookup x = some .local) (hy : X.env.scope.names.lookup y = some .local) (ha : PE X a ta) (hs1 : starEach [a, .Constant (.str w) jk c1] X.env = (false, eval a X.env) :: starEach [.Constant (.str w) jk c1] X.env)
    (hs2 : starEach [.Constant (.str w) jk c1] X.env = (false, eval (.Constant (.str w) jk c1) X.env) :: starEach [] X.env)
    (hw : swappedStores [.Tuple [.Name x px, .Name y py] kt pt] (.Tuple [a, .Constant (.str w) jk c1] k2 pt2) X.env = pure (some [x, y]))
    (hs : swapsWithSole [.Tuple [.Name x px, .Name y py] kt pt] (.Tuple [a, .Constant (.str w) jk c1] k2 pt2) pos.line X.env = pure false) (I : Inv X pins σ H s)
    (h : ta σ H fun v H1 => D.nx ((σ.set i (some v)).set j (some (.str w))) H1) :
    wpAny (model X.prog X.w) X.A (exec (.Assign [.Tuple [.Name x px, .Name y py] kt pt] (.Tuple [a, .Constant (.str w) jk c1] k2 pt2) pos) X.env) (fun f s' => 1 ≤ s'.toks ∧ SP X pins D f s') X.xe s := by
  rw [exec_Assign_arm]
  refine wpAny_bind (wpAny_standAt ?_)
  rw [hs]
  refine wpAny_bind (wpAny_pure ?_)
  rw [if_neg (by decide)]
  refine wpAny_bind (Tuple_ ?_)
  rw [hs1]
  show wpAny _ _ (spliced ((false, eval a X.env) :: backTo pt2 (starEach [.Constant (.str w) jk c1] X.env))) _ _ s
  refine Calls.spliced_cons (thn (ha.run pins s σ H _ I h) fun u1 s1 ⟨v, H1, I1, r1, q1⟩ => ?_)
  rw [hs2]
  show wpAny _ _ (spliced ((false, eval (.Constant (.str w) jk c1) X.env) :: backTo pt2 (starEach [] X.env))) _ _ s1
  refine Calls.spliced_cons (Calls.Constant_str (Calls.spliced_nil ?_))
  refine wpAny_newObj_type ?_ (by show 2 ≤ sizeLine; decide)
  refine wpAny_mono (PySem.wpAny_toks_of (n := 1) (by show 1 ≤ s1.toks + 1; omega) ?_) (fun f s' q => q) fun _ _ z => z.2
  have I1' := I1.tok (s1.toks + 1)
  have rw' : RelV (.str w) (Value.str w s1.toks) := ⟨_, rfl⟩
  generalize Value.str w s1.toks = u2 at rw'
  have I2 : Inv X pins σ H1 { s1 with toks := s1.toks + 1, heap := s1.heap.push { cls := .type "tuple", data := .seq [u1, u2].toArray } } := I1'.kept (t' := s1.toks + 1) fun b o e => Heap.get?_push_of_some _ e
  rw [hw]
  refine wpAny_bind (wpAny_pure ?_)
  show wpAny (model X.prog X.w) X.A (do rule "assign.swapped-stores"; let items ← unpackItems (.ref s1.heap.objs.size) 2 none; assignInOrder [fun v => bindName X.env y v, fun v => bindName X.env x v] items.reverse; pure Flow.next) _ _ _
  refine wpAny_bind (wpAny_rule (wpAny_bind (unpackItems_tuple (items := #[u1, u2]) (I.ok.hd hc) (IsTup.new s1.heap _) fun h' hx' => ?_)))
  have I3 := I2.kept (h' := h') (t' := s1.toks + 1) fun b o e => hx' b o (Nat.ne_of_lt (Heap.lt_size e)) e
  show wpAny _ _ (assignInOrder [fun v => bindName X.env y v, fun v => bindName X.env x v] [u2, u1] >>= fun _ => pure Flow.next) _ _ _
  refine wpAny_bind (assignInOrder_cons (wpAny_bindName (store_ok I3 hN hj (.inl hy) rw' (fun s2 I4 => ?_) (.inr hy))))
  refine assignInOrder_cons (wpAny_bindName (store_ok I4 hN hi (.inl hx) r1 (fun s3 I5 => assignInOrder_nil (wpAny_pure ?_)) (.inr hx)))
  rw [List.set_comm _ _ (Ne.symm hij)] at I5
  exact ⟨_, H1, I5, q1⟩
theorem run_parS (i j : Nat) {x y w : Str} {jk : Nat} {px py pt pt2 : Pos} {kt k2 : Nat} (ha : EvP X T a S.drp d) (q : RunT X T rest ⟨S.b, (S.sl.set i (some (.dat d))).set j (some (.dat (.str w)))⟩ k) (hN : X.N.Nodup) (hij : i ≠ j := by decide) (hi : X.N[i]? = some x := by rfl) (hj : X.N[j]? = some y := by rfl)
    (hx : X.env.scope.names.lookup x = some .local := by rfl) (hy : X.env.scope.names.lookup y = some .local := by rfl) (hw : swappedStores [.Tuple [.Name x px, .Name y py] kt pt] (.Tuple [a, .Constant (.str w) jk c1] k2 pt2) X.env = pure (some [x, y]) := by rfl)
    (hs : swapsWithSole [.Tuple [.Name x px, .Name y py] kt pt] (.Tuple [a, .Constant (.str w) jk c1] k2 pt2) pos.line X.env = pure false := by rfl) (hc : X.calm = true := by rfl)
    (hs1 : starEach [a, .Constant (.str w) jk c1] X.env = (false, eval a X.env) :: starEach [.Constant (.str w) jk c1] X.env := by rfl)
    (hs2 : starEach [.Constant (.str w) jk c1] X.env = (false, eval (.Constant (.str w) jk c1) X.env) :: starEach [] X.env := by rfl) :
    Run X T (.Assign [.Tuple [.Name x px, .Name y py] kt pt] (.Tuple [a, .Constant (.str w) jk c1] k2 pt2) pos :: rest) S k := fun B R σ H I D L pins s J => by
  refine wpAny_execs_cons (wpAny_mono (par_tok (D := { D with nx := wpSsT X rest D }) hc hN hi hj hij hx hy pe_wp hs1 hs2 hw hs J (ha R σ H I.drp _ fun R1 v H1 d' n k1 I1 n1 r1 => ?_)) (fun f s1 q => ?_) fun _ _ z => z)
  · obtain ⟨e1, e2⟩ := k1
    subst e1 e2
    exact q B R1 _ H1 (((I.after I1.le n1 I1.tw).setOne (i := i) r1).setOne (i := j) (.str w)) D L
  · obtain ⟨hk, q⟩ := q
    cases f with
    | next => obtain ⟨σ', H', I', q⟩ := q; exact q pins s1 hk I'
    | ret v => exact q
    | brk => exact q
    | cont => exact q
/-! expressions, a mark out -/
def EvPT (X : Cx) (T : Option Addr) (e : Expr) (S : Sta) (d : PyData) : Prop := ∀ (R : Hp) (σ : L2.St) (H : Hp), HE X.K T S R σ H → ∀ Q : VK,
  (∀ (R' : Hp) (v : V) (H' : Hp), HE X.K T S R' σ H' → Nx T R H R' H' → Rp X.K R' v d → Q v H') → wpET X e σ H Q
def EvAPT (X : Cx) (T : Option Addr) (es : List Expr) (S : Sta) (ds : List PyData) : Prop := ∀ (R : Hp) (σ : L2.St) (H : Hp), HE X.K T S R σ H → ∀ Q : List V → Hp → Prop,
  (∀ (R' : Hp) (vs : List V) (H' : Hp), HE X.K T S R' σ H' → Nx T R H R' H' → RpA X.K R' vs ds → Q vs H') → wpAT X es σ H Q
def EvNPT (X : Cx) (T : Option Addr) (e : Expr) (S : Sta) (ds : List PyData) : Prop := ∀ (R : Hp) (σ : L2.St) (H : Hp), HE X.K T S R σ H → ∀ Q : VK,
  (∀ (R' : Hp) (p : Addr) (xs : List V) (H' : Hp), HE X.K T S R' σ H' → Nx T R H R' H' → H p = none → T ≠ some p → R' p = none → H' p = some (.lst xs) → RpA X.K R' xs ds → Q (.ref p) H') → wpET X e σ H Q
theorem evpT_of (h : EvP X T e S d) : EvPT X T e S d := fun R σ H I Q q pins s h0 J => h R σ H I Q (fun R' v H' d' b' ⟨e1, e2⟩ I' n r => by subst e1 e2; exact q R' v H' I' n r) pins s J
theorem evpT_repl {x y z : Str} {jj kk : Nat} (ho : EvP X T o S (.str x)) (hyz : (y == z) = false) (hb : x.length + (x.length + 1) * z.length ≤ 16777216)
    (hst : starEach [.Constant (.str y) jj c0, .Constant (.str z) kk c1] X.env = [(false, eval (.Constant (.str y) jj c0) X.env), (false, eval (.Constant (.str z) kk c1) X.env)] := by rfl)
    (hbase : attributeBase o "replace" X.env (eval o X.env) = eval o X.env := by rfl) (hline : (apos.endLine == pos.line) = true := by rfl) : EvPT X T (.Call (.Attribute o "replace" apos) [.Constant (.str y) jj c0, .Constant (.str z) kk c1] [] pos) S (.str (Txt.replace x y z)) := fun R σ H I Q q pins s h0 J =>
  CwR.pet_replC pe_wp hyz hst hbase hline pins s σ H Q h0 J (ho R σ H I _ fun R' v H' d' b ⟨e1, e2⟩ I' n r => by
    subst e1 e2
    cases r
    exact ⟨x, rfl, hb, q R' _ H' I' n (.str _)⟩)
theorem evapT_nil : EvAPT X T [] S [] := fun R σ H I Q q pos pins s h0 J => pat_nil pos pins s σ H Q h0 J (q R [] H I Nx.refl .nil)
theorem evapT_cons (h : EvPT X T e S d) (hr : EvAPT X T es S ds) (hs : starEach (e :: es) X.env = (false, eval e X.env) :: starEach es X.env := by rfl) : EvAPT X T (e :: es) S (d :: ds) := fun R σ H I Q q pos pins s h0 J =>
  pat_cons pet_wp pat_wp hs pos pins s σ H Q h0 J (h R σ H I _ fun R1 v H1 I1 n1 r1 => hr R1 σ H1 I1 _ fun R2 vs H2 I2 n2 r2 => q R2 _ H2 I2 (n1.trans n2) (.cons (r1.le n2.lr) r2))
theorem evnpT_lst (h : EvAPT X T es S ds) (hl : ds.length ≤ sizeLine := by rw [sizeLine_eq]; simp only [List.length_cons, List.length_nil]; omega) : EvNPT X T (.List es pos) S ds := fun R σ H I Q q pins s h0 J =>
  pet_lst pat_wp pins s σ H Q h0 J (h R σ H I _ fun R1 vs H1 I1 n1 r1 => ⟨by rw [r1.length]; exact hl, fun p hp => by
    have h0 : H p = none := by
      cases w : H p with
      | none => rfl
      | some o => rw [n1.lx p o (I1.notT hp) w] at hp; cases hp
    exact q _ p vs _ (I1.laid hp) (n1.trans (Nx.laid hp)) h0 (I1.notT hp) (I1.le.fre hp) upd_same r1⟩)
theorem pet_bm1 {TT : String} {name : Str} {id : String} {r : V → List V → Hp → VK → Prop} {to : TE} {te : TE} {cpos : Pos} (pa : PlainAttrs TT) (slot : Slot TT name id) (hty : typeOf (.builtin id) = pure (.type "method_descriptor")) (hm : MtR X id r) (ho : PE X o to) (ha : PET X e te)
    (hbase : attributeBase o name X.env (eval o X.env) = eval o X.env := by rfl)
    (hfew : ((backTo cpos (starEach [e] X.env)).all (fun x => !x.1) && (backToKw cpos (keywordEach [] X.env)).all (fun x => x.1.isSome)
      && decide (([e] : List Expr).length + ([] : List Keyword).length + (if ([] : List Keyword).isEmpty then 0 else 1) < 30)) = true := by rfl)
    (hline : (apos.endLine == cpos.line) = true := by rfl) (hs : starEach [e] X.env = (false, eval e X.env) :: starEach [] X.env := by rfl) (hplain : (backTo cpos (starEach ([] : List Expr) X.env)).any (·.1) = false := by rfl) :
    PET X (.Call (.Attribute o name apos) [e] [] cpos) (tBM X.K TT r to (tCons te tNil)) := by
  intro pins s σ H Q h0 I h
  refine wpAny_Call_method_late hbase hfew hline rfl (wpAny_mono (PySem.wpAny_toks (ho.run pins s σ H _ I h)) (fun v s1 q => ?_) fun _ _ z => z.2)
  obtain ⟨hk, x, H1, I1, r1, ty, q1⟩ := q
  obtain ⟨h1, h2⟩ := tyV_is I1 r1 ty
  refine ⟨TT, id, pa, slot, hty, h1, h2, ?_⟩
  have hA := pat_cons ha pat_nil hs cpos pins s1 σ H1 _ (Nat.le_trans h0 hk) I1 q1
  rw [hs] at hA ⊢
  refine Calls.callWith_builtin (by show (false || (backTo cpos (starEach ([] : List Expr) X.env)).any (·.1)) = false; rw [hplain] <;> rfl) (Calls.evalArgs_plain ?_)
  exact thn hA fun us s2 ⟨vs, H2, I2, r2, q2⟩ => hm pins s2 σ H2 x vs v us Q I2 r1 r2 q2
end
end PL
namespace PL
open PySem PySem.Spec PyProof.Rows L2 RZ
section
variable {X : Cx} {T : Option Addr} {S : Sta} {κd : KD} {e a b c tg o : Expr} {es : List Expr} {rest : List Stmt} {pos p1 p2 p3 apos c0 c1 : Pos} {d : PyData} {ds : List PyData}
theorem psst_expr {te : TE} (he : PET X e te) (hs : swapsWith e none pos.line X.env = pure false) : PST X (.Expr e pos) (tDrop te) := fun pins s σ H D h0 I h =>
  wpAny_Expr_any (thn (he pins s σ H _ h0 I h) fun v s1 ⟨x, H1, I1, r1, q1⟩ => ⟨σ, H1, I1, q1⟩) I.quiet hs
theorem runt_ext {x : Str} (i : Nat) {ds es : List PyData} (hi : S.sl[i]? = some (some (.mu ds))) (h : EvNPT X T e S.drp es) (hz : ds.length + es.length ≤ sizeLine) (hq : RunT X T rest ⟨S.b, S.sl.set i (some (.mu (ds ++ es)))⟩ κd)
    (hN : X.N[i]? = some x := by rfl) (hv : Vis X.env.scope x := by first | exact Or.inl rfl | exact Or.inr (Or.inl rfl) | exact Or.inr (Or.inr rfl)) (hd : (x == ("__debug__" : Str)) = false := by decide) (hcd : (x == ("__classdict__" : Str)) = false := by decide)
    (hs : swapsWith (.Call (.Attribute (.Name x p1) "extend" p2) [e] [] p3) none pos.line X.env = pure false := by rfl) (hse : starEach [e] X.env = (false, eval e X.env) :: starEach [] X.env := by rfl)
    (hbase : attributeBase (.Name x p1) "extend" X.env (eval (.Name x p1) X.env) = eval (.Name x p1) X.env := by rfl)
    (hfew : ((backTo p3 (starEach [e] X.env)).all (fun x => !x.1) && (backToKw p3 (keywordEach [] X.env)).all (fun x => x.1.isSome) && decide (([e] : List Expr).length + ([] : List Keyword).length + (if ([] : List Keyword).isEmpty then 0 else 1) < 30)) = true := by rfl)
    (hline : (p2.endLine == p3.line) = true := by rfl) (hst : (backTo p3 (starEach ([] : List Expr) X.env)).any (·.1) = false := by rfl) :
    RunT X T (.Expr (.Call (.Attribute (.Name x p1) "extend" p2) [e] [] p3) pos :: rest) S κd := fun B R σ H I D L pins s h0 J => by
  obtain ⟨v, f1, a, ys, g1, g2, g3, g4, g5, g6⟩ := I.sl i _ hi
  subst g1
  refine psst_cons (u := wpSsT X rest) (psst_expr (pet_bm1 PySem.F.plainAttrs_list PySem.F.slot_list_extend PySem.F.type_list_extend mt_extend (pe_var hN hv hd hcd) pet_wp hbase hfew hline hse hst) hs) (fun pins s σ H D h0 J h => h pins s h0 J) pins s σ H D h0 J ?_
  refine ⟨.ref a, f1, .inl ⟨rfl, _, SqL.of g2⟩, h R σ H I.drp _ fun R1 pp xs H1 I1 n1 h1 h2 h3 h4 h5 => ?_⟩
  have I' := I.after I1.le n1 I1.tw
  obtain ⟨v2, f2, a2, ys2, q1, q2, q3, q4, q5, q6⟩ := I'.sl i _ hi
  subst q1
  rw [f1] at f2; cases f2
  exact ⟨a, pp, ys2, xs, rfl, rfl, q2, h4, by rw [q3.length, h5.length]; exact hz, hq B R1 σ _ (I'.putM hi f1 (q3.append h5)) D L⟩
theorem evp_orS {l m : List Nat} (ha : EvP X T a S (tD l)) (hl : l.length ≤ sizeLine) (hb : EvP X T (.BoolOp .Or [b] pos) S (tD m)) : EvP X T (.BoolOp .Or [a, b] pos) S (tD (if l = [] then m else l)) := fun R σ H I Q q =>
  wpE_of (pe_orT pe_wp pe_wp) (ha R σ H I _ fun R1 v H1 d' b' ⟨e1, e2⟩ I1 n1 r1 => by
    subst e1 e2
    cases r1
    refine ⟨_, ⟨by rw [tx_len]; exact hl, rfl⟩, ?_⟩
    rw [tx_len]
    by_cases g : l = []
    · subst g
      rw [if_neg (by decide)]
      refine hb R1 σ H1 I1 _ fun R2 v2 H2 d2 b2 ⟨e1, e2⟩ I2 n2 r2 => ?_
      subst e1 e2
      exact q R2 v2 H2 _ _ ⟨by rw [if_pos rfl], rfl⟩ I2 (n1.trans n2) r2
    · have : 0 < l.length := List.length_pos_iff.mpr g
      rw [if_pos (by simp; omega)]
      exact q R1 _ H1 _ _ ⟨by rw [if_neg g], rfl⟩ I1 n1 (.str _))
end
/-! replace, computed -/
theorem replS {l s z a b : List Nat} (h : TL.spl s 0 [] l = [a, b]) (hs0 : s ≠ []) (hk : ∀ c ∈ s, c < 256) : Txt.replace (tx l) (tx s) (tx z) = tx (a ++ z ++ b) := by
  have hne : TL.tl (tx s) ≠ [] := hs0
  have hkk : ¬ Builtin.Str.strKind (tx l) < Builtin.Str.strKind (tx s) := TL.kind_ok (by
    show s.toArray.all _ = true
    simp only [List.all_toArray, List.all_eq_true]
    exact fun c hc => decide_eq_true (hk c hc))
  have h1 := TL.split_spl (tx l) (tx s) hne hkk
  have h2 : Txt.split (tx l) (tx s) = [tx a, tx b] := by
    apply TL.map_tl_inj
    rw [h1]
    show TL.spl s 0 [] l = _
    rw [h]; rfl
  unfold Txt.split at h2
  by_cases g1 : (decide ((tx l).length < (tx s).length) || decide (Builtin.Str.strKind (tx l) < Builtin.Str.strKind (tx s))) = true
  · rw [if_pos g1] at h2; cases h2
  · rw [if_neg g1] at h2
    by_cases g2 : (Builtin.Str.occurrences (tx l) (tx s) 0 (tx l).length ((tx l).length + 1)).isEmpty = true
    · rw [if_pos g2] at h2; cases h2
    · rw [if_neg g2] at h2
      unfold Txt.replace
      have h3 : ((tx s).length == 0 && (tx z).length == 0) = false := by
        have : (tx s).length ≠ 0 := by rw [tx_len]; exact fun w => hs0 (List.length_eq_zero_iff.mp w)
        rw [show ((tx s).length == 0) = false from by simpa using this]; rfl
      rw [h3, Bool.or_false, if_neg g2, h2]
      unfold Builtin.Str.glued tx
      simp
section
variable {X : Cx} {T : Option Addr} {S : Sta} {o : Expr} {pos apos c0 c1 : Pos}
theorem evpT_replS {l s z a b : List Nat} {jj kk : Nat} (ho : EvP X T o S (tD l)) (h : TL.spl s 0 [] l = [a, b]) (hs0 : s ≠ []) (hk : ∀ c ∈ s, c < 256) (hsz : s ≠ z) (hb : l.length ≤ 1000) (hz : z.length ≤ 1000)
    (hst : starEach [.Constant (.str (tx s)) jj c0, .Constant (.str (tx z)) kk c1] X.env = [(false, eval (.Constant (.str (tx s)) jj c0) X.env), (false, eval (.Constant (.str (tx z)) kk c1) X.env)] := by rfl)
    (hbase : attributeBase o "replace" X.env (eval o X.env) = eval o X.env := by rfl) (hline : (apos.endLine == pos.line) = true := by rfl) : EvPT X T (.Call (.Attribute o "replace" apos) [.Constant (.str (tx s)) jj c0, .Constant (.str (tx z)) kk c1] [] pos) S (tD (a ++ z ++ b)) := by
  have := evpT_repl (x := tx l) (y := tx s) (z := tx z) (jj := jj) (kk := kk) (c0 := c0) (c1 := c1) (apos := apos) (pos := pos) ho (by
    rw [beq_eq_false_iff_ne]
    intro e
    exact hsz (by have := congrArg TL.tl e; exact this)) (by
    rw [tx_len, tx_len]
    have := Nat.mul_le_mul (show l.length + 1 ≤ 1001 by omega) hz
    omega) hst hbase hline
  rw [replS h hs0 hk] at this
  exact this
end
/-! texts that are no number's -/
theorem ns_form {w : List Nat} {a : Nat} (h : ∀ p, Pr p → a = 48 + p → ¬ okW p w) : ¬ isSay (w ++ BYL ++ [a]) := fun z => by
  obtain ⟨p, v, hp, ok, e⟩ := isSay_iff.mp z
  obtain ⟨e1, e2⟩ := app_inj5 e
  subst e1
  exact h p hp e2 ok
theorem ns_rev {l : List Nat} (h : ∀ p r, Pr p → l.reverse ≠ (48 + p) :: 32 :: 121 :: 98 :: 32 :: r) : ¬ isSay l := fun z => by
  obtain ⟨p, v, hp, ok, e⟩ := isSay_iff.mp z
  exact h p v.reverse hp (by rw [e]; simp)
theorem ns_last {l : List Nat} {a : Nat} (h : ∀ p, Pr p → a ≠ 48 + p) : ¬ isSay (l ++ [a]) := ns_rev fun p r hp e => by
  rw [List.reverse_append] at e
  injection e with e1 e2
  exact h p hp e1
theorem ns_last2 {l : List Nat} {a b : Nat} (h : a ≠ 32) : ¬ isSay (l ++ [a, b]) := ns_rev fun p r hp e => by
  rw [List.reverse_append] at e
  injection e with e1 e2
  injection e2 with e2 e3
  exact h e2
theorem ns_last3 {l : List Nat} {a b c : Nat} (h : a ≠ 121) : ¬ isSay (l ++ [a, b, c]) := ns_rev fun p r hp e => by
  rw [List.reverse_append] at e
  injection e with e1 e2
  injection e2 with e2 e3
  injection e3 with e3 e4
  exact h e3
theorem ns_short {l : List Nat} (h : l.length < 5) : ¬ isSay l := fun z => by
  obtain ⟨p, v, hp, ok, e⟩ := isSay_iff.mp z
  rw [e] at h
  simp at h
  omega
theorem nok_mem {p : Nat} {w : List Nat} {c : Nat} (hc : c ∈ w) (h : c < 48 ∨ 48 + p ≤ c) : ¬ okW p w := fun ok => by
  have := ok.sg c hc
  omega
theorem due_txN {p : Nat} (h2 : 2 ≤ p) (n : Nat) : (if dgT p n = [] then [48] else dgT p n) = txN p n := by
  unfold txN
  by_cases h : n = 0
  · subst h
    rw [if_pos rfl, if_pos (by unfold dgT; rw [figs_zero]; rfl)]
  · rw [if_neg h, if_neg]
    intro g
    have := congrArg List.length g
    rw [dgT_len] at this
    exact figs_ne h2 h (List.length_eq_zero_iff.mp this)
theorem dgT_hd {p n : Nat} (h2 : 2 ≤ p) : ∀ c, (dgT p n).head? = some c → c ≠ 48 := fun c hc => by
  unfold dgT at hc
  rw [List.head?_map, List.head?_reverse] at hc
  cases e : (figs p n).getLast? with
  | none => rw [e] at hc; cases hc
  | some d =>
    rw [e] at hc
    have := figs_lastT h2 n n (Nat.le_refl _) d e
    have hc : 48 + d = c := Option.some.inj hc
    omega
theorem ok_ins {p n r : Nat} (h2 : 2 ≤ p) : okW p ((dgT p n).take r ++ [49] ++ (dgT p n).drop r) := by
  refine ⟨by simp, fun c hc => ?_, fun _ => ?_⟩
  · rcases List.mem_append.mp hc with h | h
    · rcases List.mem_append.mp h with h | h
      · exact dgT_mem h2 (List.mem_of_mem_take h)
      · have : c = 49 := by simpa using h
        omega
    · exact dgT_mem h2 (List.mem_of_mem_drop h)
  · have hh := dgT_hd (n := n) h2
    generalize dgT p n = D at *
    cases D with
    | nil => simp
    | cons c D =>
      have := hh c rfl
      cases r with
      | zero => simp
      | succ r => simpa using this
theorem say_ins {p n r : Nat} (h2 : 2 ≤ p) : say p (nmW p ((dgT p n).take r ++ [49] ++ (dgT p n).drop r)) = (dgT p n).take r ++ [49] ++ (dgT p n).drop r ++ BYL ++ [48 + p] := by
  unfold say
  rw [← okW_num h2 (ok_ins h2)]
theorem figs_app {p n i x : Nat} (h : (figs p n)[i]? = some x) : [48 + x] ++ ((figs p n).take i).reverse.map (48 + ·) = ((figs p n).take (i + 1)).reverse.map (48 + ·) := by
  rw [List.take_add_one, h]; simp
section
variable {p n r : Nat}
theorem bad_w {w : List Nat} (l : List Nat) (a : Nat) (e : l = w ++ BYL ++ [a]) (h : ∀ p, Pr p → a = 48 + p → ¬ okW p w) : ¬ isSay l := by rw [e]; exact ns_form h
theorem bads_no (hp : Pr p) : ∀ l ∈ ([[48] ++ say p n, (dgT p n).take r ++ [48 + p] ++ (dgT p n).drop r ++ BYL ++ [48 + p], [32] ++ say p n, say p n ++ [32], say p n ++ [48]] ++ [txN p n ++ [98, 121] ++ [48 + p], txN p n ++ [32, 32, 98, 121, 32] ++ [48 + p], say p n ++ [32, 98, 121, 32, 50]] ++ [dgT p n ++ [32, 98, 121, 32, 52], dgT p n ++ [32, 98, 121, 32, 49, 49], dgT p n ++ [32, 98, 121, 32, 49], [32, 98, 121, 32, 50], [45] ++ say p n] ++ [[43] ++ say p n, txN p n ++ [32, 66, 89, 32] ++ [48 + p], [98, 121, 32] ++ [48 + p]] ++ [dgT p n ++ [32, 98, 121, 32], [49, 120, 32, 98, 121, 32, 55], [], [55, 32, 98, 121, 32, 55], [50, 32, 98, 121, 32, 50], [49, 32, 98, 121, 32, 48, 50], [48, 48, 32, 98, 121, 32, 53]]), ¬ isSay l := by
  have h2 := Pr_two hp
  have hq4 : ¬ Pr 4 := by unfold Pr; decide
  intro l hl
  have hsz : ∀ q, Pr q → 2 ≤ q := fun q h => Pr_two h
  have hne := (okW_txN h2 n).ne
  simp only [List.mem_append, List.mem_cons, List.not_mem_nil, or_false] at hl
  rcases hl with (((hl | hl) | hl) | hl) | hl
  · rcases hl with rfl | rfl | rfl | rfl | rfl
    · refine bad_w (w := [48] ++ txN p n) _ (48 + p) (by unfold say; simp) fun q hq e ok => ok.hd ?_ rfl
      have := List.length_pos_iff.mpr hne
      simp; omega
    · exact ns_form fun q hq e => nok_mem (c := 48 + p) (by simp) (by omega)
    · exact bad_w (w := [32] ++ txN p n) _ (48 + p) (by unfold say; simp) fun q hq e => nok_mem (c := 32) (by simp) (by omega)
    · exact ns_last fun q hq => by have := hsz q hq; omega
    · exact ns_last fun q hq => by have := hsz q hq; omega
  · rcases hl with rfl | rfl | rfl
    · rw [show txN p n ++ [98, 121] ++ [48 + p] = (txN p n ++ [98]) ++ [121, 48 + p] by simp]
      exact ns_last2 (by decide)
    · exact bad_w (w := txN p n ++ [32]) _ (48 + p) (by simp) fun q hq e => nok_mem (c := 32) (by simp) (by omega)
    · exact bad_w (w := say p n) _ 50 (by simp) fun q hq e => nok_mem (c := 32) (by unfold say; simp) (by omega)
  · rcases hl with rfl | rfl | rfl | rfl | rfl
    · exact bad_w (w := dgT p n) _ 52 (by simp) fun q hq e => absurd hq (by rw [show q = 4 by omega]; exact hq4)
    · rw [show dgT p n ++ [32, 98, 121, 32, 49, 49] = (dgT p n ++ [32, 98, 121, 32, 49]) ++ [49] by simp]
      exact ns_last fun q hq => by have := hsz q hq; omega
    · rw [show dgT p n ++ [32, 98, 121, 32, 49] = (dgT p n ++ [32, 98, 121, 32]) ++ [49] by simp]
      exact ns_last fun q hq => by have := hsz q hq; omega
    · exact bad_w (w := []) _ 50 rfl fun q hq e ok => ok.ne rfl
    · exact bad_w (w := [45] ++ txN p n) _ (48 + p) (by unfold say; simp) fun q hq e => nok_mem (c := 45) (by simp) (by omega)
  · rcases hl with rfl | rfl | rfl
    · exact bad_w (w := [43] ++ txN p n) _ (48 + p) (by unfold say; simp) fun q hq e => nok_mem (c := 43) (by simp) (by omega)
    · rw [show txN p n ++ [32, 66, 89, 32] ++ [48 + p] = (txN p n ++ [32, 66]) ++ [89, 32, 48 + p] by simp]
      exact ns_last3 (by decide)
    · exact ns_short (by simp)
  · rcases hl with rfl | rfl | rfl | rfl | rfl | rfl | rfl
    · rw [show dgT p n ++ [32, 98, 121, 32] = (dgT p n ++ [32, 98, 121]) ++ [32] by simp]
      exact ns_last fun q hq => by have := hsz q hq; omega
    · exact bad_w (w := [49, 120]) _ 55 rfl fun q hq e => nok_mem (c := 120) (by simp) (by omega)
    · exact ns_short (by simp)
    · exact bad_w (w := [55]) _ 55 rfl fun q hq e => nok_mem (c := 55) (by simp) (by omega)
    · exact bad_w (w := [50]) _ 50 rfl fun q hq e => nok_mem (c := 50) (by simp) (by omega)
    · exact ns_last2 (l := [49, 32, 98, 121, 32]) (a := 48) (b := 50) (by decide)
    · exact bad_w (w := [48, 48]) _ 53 rfl fun q hq e ok => ok.hd (by simp) rfl
theorem bads_len (hw : (txN p n).length ≤ 30) (hd : (dgT p n).length ≤ 30) : ∀ l ∈ ([[48] ++ say p n, (dgT p n).take r ++ [48 + p] ++ (dgT p n).drop r ++ BYL ++ [48 + p], [32] ++ say p n, say p n ++ [32], say p n ++ [48]] ++ [txN p n ++ [98, 121] ++ [48 + p], txN p n ++ [32, 32, 98, 121, 32] ++ [48 + p], say p n ++ [32, 98, 121, 32, 50]] ++ [dgT p n ++ [32, 98, 121, 32, 52], dgT p n ++ [32, 98, 121, 32, 49, 49], dgT p n ++ [32, 98, 121, 32, 49], [32, 98, 121, 32, 50], [45] ++ say p n] ++ [[43] ++ say p n, txN p n ++ [32, 66, 89, 32] ++ [48 + p], [98, 121, 32] ++ [48 + p]] ++ [dgT p n ++ [32, 98, 121, 32], [49, 120, 32, 98, 121, 32, 55], [], [55, 32, 98, 121, 32, 55], [50, 32, 98, 121, 32, 50], [49, 32, 98, 121, 32, 48, 50], [48, 48, 32, 98, 121, 32, 53]]), l.length ≤ 70 := by
  intro l hl
  have hs : (say p n).length = (txN p n).length + 5 := by unfold say; simp
  simp only [List.mem_append, List.mem_cons, List.not_mem_nil, or_false] at hl
  rcases hl with (((hl | hl) | hl) | hl) | hl
  · rcases hl with rfl | rfl | rfl | rfl | rfl <;> simp only [List.length_append, List.length_cons, List.length_nil, List.length_take, List.length_drop] <;> omega
  · rcases hl with rfl | rfl | rfl <;> simp only [List.length_append, List.length_cons, List.length_nil] <;> omega
  · rcases hl with rfl | rfl | rfl | rfl | rfl <;> simp only [List.length_append, List.length_cons, List.length_nil] <;> omega
  · rcases hl with rfl | rfl | rfl <;> simp only [List.length_append, List.length_cons, List.length_nil] <;> omega
  · rcases hl with rfl | rfl | rfl | rfl | rfl | rfl | rfl <;> simp only [List.length_append, List.length_cons, List.length_nil] <;> omega
end
end PL
set_option maxHeartbeats 4000000
/-! except X as e: a def is asked about e -/
namespace PL
open PySem PySem.Spec PyProof.Rows L2 RZ
open L2H (RoomH PinOk cxH inv_startH roomH_of)
/-- isinstance of an exception that is held -/
theorem call_isX {X : Cx} {a D : Addr} {oe : Obj} (C : ExcC X.K D) (hz : Zc (.ref D) none oe) (hf : ∃ vs, oe.data = .fields vs) (hp : (a, oe) ∈ X.pn) : CallR X (.builtin "isinstance") (rIsE X.K D a) := by
  intro pins s σ H xs us Q I r h
  obtain ⟨c, cv, b, rfl, hcv, e, q⟩ := h
  cases r with
  | cons rx rr =>
    cases rr with
    | cons rt rr =>
      cases rr
      cases rx
      have ec := hcv _ rt
      subst ec
      obtain ⟨hget, _⟩ := I.pin (a, oe) (List.mem_append.mpr (.inl hp))
      obtain ⟨vs, hv⟩ := hf
      have J : PySem.W.InstAt s.heap a oe D none := by
        obtain ⟨oc, od, oda, osl⟩ := oe
        obtain ⟨h1, h2⟩ := hz
        dsimp only at h1 h2 hv
        subst h1 h2 hv
        exact ⟨hget, rfl, rfl, trivial⟩
      exact PySem.W.kia_one (PySem.W.handS_kitx_exc C.hg C.hk C.hs C.hd C.ha C.hn C.ht C.hm) I.kIn J e (fun z => nomatch z) fun tk => ⟨.bl b, H, I.kept (t' := tk) fun _ _ z => z, rfl, q⟩
/-- what stands fast of an exception object -/
structure Held (D a : Addr) (oe : Obj) (pn : List (Addr × Obj)) : Prop where
  z : Zc (.ref D) none oe
  f : ∃ vs, oe.data = .fields vs
  m : (a, oe) ∈ pn
section
variable {X : Cx} {T : Option Addr} {S : Sta} {e c : Expr} {pos p p2 : Pos} {n m : Str} {D a Ca : Addr} {oe : Obj} {b : Bool}
theorem evp_isX (C : ExcC X.K D) (hh : Held D a oe X.pn) (h0 : EvP X T e S (rD a)) (hm : X.mg m = some (.ref Ca)) (hk : PySem.W.kitOne X.K (.ref D) (.ref Ca) = some b) (hi : X.mg "isinstance" = none)
    (hg : Gl X "isinstance" := by rfl) (hgm : Gl X m := by rfl) (hdb2 : (m == ("__debug__" : Str)) = false := by decide) (hi2 : bootBuiltins "isinstance" = some (.builtin "isinstance") := by decide +kernel)
    (hs1 : starEach [e, .Name m p2] X.env = (false, eval e X.env) :: starEach [.Name m p2] X.env := by rfl) (hs2 : (backTo pos (starEach [.Name m p2] X.env)).any (·.1) = false := by rfl) :
    EvP X T (.Call (.Name "isinstance" p) [e, .Name m p2] [] pos) S (.bool b) := fun R σ H I Q q =>
  wpE_of (pe_callB (call_isX C hh.z hh.f hh.m) hg hi hi2 (pa_cons pe_wp (pa_cons (pe_glob (v := .ref Ca) hgm hm rfl hdb2) pa_nil) hs1) (by decide) (by decide) hs1 hs2) (h0 R σ H I _ fun R1 v H1 d' b1 ⟨e1, e2⟩ I1 n1 r1 => by
    subst e1 e2
    rw [rp_rD r1]
    exact ⟨.ref Ca, .ref Ca, b, rfl, fun u r => r, hk, q R1 _ H1 _ _ ⟨rfl, rfl⟩ I1 n1 (.bl b)⟩)
theorem evp_isXB (C : ExcC X.K D) (hh : Held D a oe X.pn) (h0 : EvP X T e S (rD a)) {u : String} (hm : X.mg m = none) (hv : bootBuiltins m = some (.type u)) (hk : PySem.W.kitOne X.K (.ref D) (.type u) = some b) (hi : X.mg "isinstance" = none)
    (hg : Gl X "isinstance" := by rfl) (hgm : Gl X m := by rfl) (hn2 : m ≠ "__name__" := by decide) (hdb2 : (m == ("__debug__" : Str)) = false := by decide) (hi2 : bootBuiltins "isinstance" = some (.builtin "isinstance") := by decide +kernel)
    (hs1 : starEach [e, .Name m p2] X.env = (false, eval e X.env) :: starEach [.Name m p2] X.env := by rfl) (hs2 : (backTo pos (starEach [.Name m p2] X.env)).any (·.1) = false := by rfl) :
    EvP X T (.Call (.Name "isinstance" p) [e, .Name m p2] [] pos) S (.bool b) := fun R σ H I Q q =>
  wpE_of (pe_callB (call_isX C hh.z hh.f hh.m) hg hi hi2 (pa_cons pe_wp (pa_cons (pe_bltn (v := .ty u) hgm hm hv rfl hn2 hdb2) pa_nil) hs1) (by decide) (by decide) hs1 hs2) (h0 R σ H I _ fun R1 v H1 d' b1 ⟨e1, e2⟩ I1 n1 r1 => by
    subst e1 e2
    rw [rp_rD r1]
    exact ⟨.ty u, .type u, b, rfl, fun w r => r, hk, q R1 _ H1 _ _ ⟨rfl, rfl⟩ I1 n1 (.bl b)⟩)
end
/-- a def of one argument that is asked about the exception that is handled -/
structure FnE (P : Program) (w : World) (K : PySem.W.Frag) (mg : Str → Option Value) (base : Heap) (k : Nat) (f : Addr) (fd : FuncData) (ps : List Str) (pre : Addr → Prop) (out : Addr → PyData) : Prop where
  len : ps.length = 1
  run : ∀ (A : Around) (outer : List Env) (s : Shared) (H : Hp) (args : Args) (a : Addr) (oe : Obj) (D : Addr) (Q : VK), RoomH k A → PinOk outer H s (a, oe) → Zc (.ref D) none oe → (∃ vs, oe.data = .fields vs) → pre D → Env0 P w K mg base A outer s H →
    BindsTo s fd args (ps.zip [Value.ref a]) → (∃ R, Le R H ∧ ∀ R' v H', Nx none R H R' H' → Le R' H' → Rp K R' v (out D) → Q v H') → codeAny (model P w) A (.call (.ref f) args) (CR CX0 outer P w H s Q fun _ _ _ => False) s
section
variable (P : Program) (w : World) (K : PySem.W.Frag) (mg : Str → Option Value) (base : Heap)
structure CalleeE (n : Str) (k : Nat) (pre : Addr → Prop) (out : Addr → PyData) : Prop where
  ex : ∃ (f : Addr) (fd : FuncData) (ps : List Str), FnE P w K mg base k f fd ps pre out ∧ mg n = some (.ref f) ∧ PySem.W.keepIn K (.ref f) = true ∧ Binds K fd ps []
end
section
variable {P : Program} {w : World} {K : PySem.W.Frag} {mg : Str → Option Value} {base : Heap}
abbrev CxE (P : Program) (w : World) (K : PySem.W.Frag) (mg : Str → Option Value) (base : Heap) (N : List Str) (n : Str) (st : Stmt) (f : Addr) (cdv : Value) (A : Around) (outer : List Env) (s : Shared) (H : Hp) (p : Addr × Obj) : Cx := cxH CX0 P w K mg base N n (defScope st) f cdv A outer s H (fun _ _ _ => False) p
theorem calleeE_of {n x : Str} {st : Stmt} {N : List Str} {k : Nat} {pre : Addr → Prop} {out : Addr → PyData} (D : DefAt K mg n st [x]) (Sc : FnScope N [x] (defScope st))
    (body : ∀ (f : Addr) (cdv : Value) (A : Around) (outer : List Env) (s : Shared) (H : Hp) (a : Addr) (oe : Obj) (D : Addr), Held D a oe [(a, oe)] → pre D →
      Run (CxE P w K mg base N n st f cdv A outer s H (a, oe)) none (defBody st) ⟨0, startS N.length [.dat (rD a)]⟩ ⟨fun _ => False, fun d _ => d = out D, fun _ => False, fun _ => False⟩) : CalleeE P w K mg base n (k + 1) pre out := by
  obtain ⟨f, fd, F, gm, b⟩ := D.ex
  refine ⟨f, fd, [x], ⟨rfl, fun A outer s H args a oe D Q hr hpin hz hf hD e0 hb h => ?_⟩, gm, F.kp, b⟩
  obtain ⟨oc, od, kV, doc, pm, an, cdv, ct, osl, rfl, lk, hcd⟩ := F.ex
  have KX : K.In s.heap := e0.mod.kin.keeps fun b o e => (e0.bs b o e).1
  have lim : s.heap.NoLimit := e0.mod.nolimit.keeps fun b o e => (e0.bs b o e).1
  have hkind : ∀ y ∈ [x].zip [Value.ref a], (defScope st).names.lookup y.1 = some .local ∨ ((defScope st).names.lookup y.1 = some .cell ∧ ((cellsFrom (s.heap.objs.size + 1) (defScope st).names []).lookup y.1).isSome = true) := fun ⟨n, v⟩ hy => by
    rcases Sc.par n (List.of_mem_zip hy).1 with q | q
    · exact .inl q
    · exact .inr ⟨q, PySem.W.cellsFrom_some _ _ _ (.inl q)⟩
  refine codeAny_call_function hr.depth (KX _ _ lk) rfl Sc.co Sc.gen rfl (PySem.W.codeRec_of KX hcd) (hb _ _ _ _ ?_)
  refine wpAny_newFunctionEnv_cells Sc.kind hkind fun env he s1 x1 => ?_
  subst he
  refine ⟨lim.keeps x1.toInCall.keep, codeAny_func ?_⟩
  have rv : Vals [V.ref a] [Value.ref a] := .cons rfl .nil
  have I : Inv (CxE P w K mg base N n st f cdv A outer s H (a, oe)) [] (L2.start N [V.ref a]) H s1 := inv_startH Sc hpin e0 rfl rv x1
  obtain ⟨R, le, hq⟩ := h
  have hps : [x].length ≤ N.length := by rw [← Sc.pre, List.length_take]; omega
  have hrun := body f cdv A outer s H a oe D ⟨hz, hf, List.mem_cons_self⟩ hD ⟨R, H⟩ R (L2.start N [V.ref a]) H (hs_start le (fun t z => nomatch z) (.cons (show SE K none R (.dat (rD a)) (.ref a) from .rf) .nil) hps) ⟨fun _ _ => False, Q, fun _ _ => False, fun _ _ => False⟩ ⟨fun S R' σ' H' q I => q, fun S R' σ' H' q I => q, fun S R' σ' H' q I => q, fun R' v H' d b q le' n' tw' r' => by subst q; exact hq R' v H' n' le' r'⟩ [] s1 I
  refine wpAny_mono hrun (fun fl s' hs => ?_) fun e s' hs => hs
  cases fl with
  | ret u =>
    obtain ⟨v, σ', H', J, rv, q⟩ := hs
    exact ⟨v, H', J.os, J.bare, J.base, J.hok, rv, q⟩
  | next =>
    obtain ⟨σ', H', J, q⟩ := hs
    exact False.elim q
  | brk =>
    obtain ⟨_, _, _, q⟩ := hs
    exact False.elim q
  | cont =>
    obtain ⟨_, _, _, q⟩ := hs
    exact False.elim q
end
section
variable {X : Cx} {T : Option Addr} {S : Sta} {k : KD} {C : Value} {Ps : Sta → Prop} {e c : Expr} {es : List Expr} {rest body oth : List Stmt} {pos pos' p : Pos} {d : PyData} {n x : Str} {D a : Addr} {oe : Obj} {j : Nat}
theorem run_fnE {pins : List (Addr × Obj)} {σ : L2.St} {H : Hp} {s : Shared} {Q : VK} {f : Addr} {fd : FuncData} {ps : List Str} {pre : Addr → Prop} {out : Addr → PyData} (F : FnE X.prog X.w X.K X.mg X.base j f fd ps pre out) (hr : RoomH j X.A) (hh : Held D a oe X.pn) (hD : pre D) (hb : Binds X.K fd ps [])
    (I : Inv X pins σ H s) (h : ∃ R, Le R H ∧ ∀ R' v H', Nx none R H R' H' → Le R' H' → Rp X.K R' v (out D) → Q v H') : wpAny (model X.prog X.w) X.A (call (.ref f) [.ref a]) (EP X pins σ Q) X.xe s := by
  have b := hb s [.ref a] I.kIn (by rw [List.append_nil, F.len]; rfl)
  rw [List.append_nil] at b
  have P1 := I.pin (a, oe) (List.mem_append_left _ hh.m)
  have hpin : PinOk X.stack H s (a, oe) := ⟨P1.1, P1.2.1, fun hm => (List.mem_cons.mp (I.stkSub a hm)).elim P1.2.2.1 P1.2.2.2.1, P1.2.2.2.2⟩
  refine wpAny_call (codeAny_mono (F.run X.A X.stack s H ⟨[.ref a], []⟩ a oe D Q hr hpin hh.z hh.f hD I.env0 b h) fun r s' hq => ?_)
  cases r with
  | error e => exact (show False from hq).elim
  | ok fl =>
    cases fl with
    | ret u => exact I.after hq
    | next => exact False.elim hq
    | brk => exact False.elim hq
    | cont => exact False.elim hq
theorem evp_fnE {pre : Addr → Prop} {out : Addr → PyData} (F : CalleeE X.prog X.w X.K X.mg X.base n j pre out) (hr : RoomH j X.A) (hh : Held D a oe X.pn) (hD : pre D) (h0 : EvP X T e S (rD a)) (hg : Gl X n := by rfl) (hdb : (n == ("__debug__" : Str)) = false := by decide)
    (he : starEach [e] X.env = (false, eval e X.env) :: starEach [] X.env := by rfl) (hpl : (backTo pos (starEach ([] : List Expr) X.env)).any (·.1) = false := by rfl) : EvP X T (.Call (.Name n p) [e] [] pos) S (out D) := fun R σ H I Q q pins s J => by
  obtain ⟨f, fd, ps, Fn, gm, kp, b⟩ := F.ex
  refine wpAny_Call_Name_kw (ld_glob J hg gm ?_ hdb)
  have hA := (pa_cons (X := X) (e := e) pe_wp pa_nil he).run pos pins s σ H (fun vs H2 => vs = [.ref a] ∧ ∃ R2, HE X.K T S R2 σ H2 ∧ Nx T R H R2 H2) J (h0 R σ H I _ fun R1 v H1 d' b1 ⟨e1, e2⟩ I1 n1 r1 => by
    subst e1 e2
    rw [rp_rD r1]
    exact ⟨rfl, R1, I1, n1⟩)
  refine PySem.W.callWith_K (h₀ := X.base) J.ok.mod.kin kp (thn hA fun us s1 ⟨vs, H1, I1, r, q1⟩ => ⟨I1.kIn, ?_⟩) he hpl
  obtain ⟨rfl, R2, I2, n2⟩ := q1
  cases r with
  | cons r0 r =>
    cases r
    cases r0
    exact run_fnE Fn hr hh hD b I1 ⟨R2, I2.le, fun R' v H' n3 l3 r3 => q R' v H' _ _ ⟨rfl, rfl⟩ (I2.mono (n3.weak (T := T)) l3 (I2.tw.of n3)) (n2.trans n3.weak) r3⟩
theorem HS.setNo {K : PySem.W.Frag} {B : Bs} {R H : Hp} {σ : L2.St} {S : Sta} {i : Nat} (h : HS K B T S R σ H) : HS K B T ⟨S.b, S.sl.set i none⟩ R (σ.set i none) H := by
  have other : ∀ (j : Nat) (s : Sl), (S.sl.set i none)[j]? = some (some s) → j ≠ i ∧ S.sl[j]? = some (some s) := fun j s e => by
    by_cases hj : j = i
    · subst hj
      by_cases hk : j < S.sl.length
      · rw [List.getElem?_set_self hk] at e; cases e
      · rw [List.getElem?_eq_none (by rw [List.length_set]; omega)] at e; cases e
    · rw [List.getElem?_set_ne (Ne.symm hj)] at e
      exact ⟨hj, e⟩
  refine ⟨h.le, h.n, h.tw, by show (S.sl.set i _).length ≤ _; rw [List.length_set, List.length_set]; exact h.len, fun j s e => ?_, fun j k ds es a hjk e1 e2 e3 => ?_⟩
  · obtain ⟨hj, e⟩ := other j s e
    obtain ⟨v, e1, q⟩ := h.sl j s e
    exact ⟨v, by rw [List.getElem?_set_ne (Ne.symm hj)]; exact e1, q⟩
  · obtain ⟨hj, e1⟩ := other j _ e1
    obtain ⟨hk, e2⟩ := other k _ e2
    rw [List.getElem?_set_ne (Ne.symm hj)] at e3
    rw [List.getElem?_set_ne (Ne.symm hk)]
    exact h.sep j k ds es a hjk e1 e2 e3
/-- try: .. / except x as n: .., where the body raises -/
theorem run_tryAs {body suite : List Stmt} {b₀ : Stmt} {np p1 p2 : Pos} {c : Value} (i : Nat) (hc : Names X x c) (hb : ∀ pn xe, RunX (X.tr pn xe) T body S (.ref D) Ps) (hm : PySem.W.exmOne X.K (.ref D) c = some true)
    (hsu : ∀ a oe pn S', Held D a oe ((a, oe) :: pn) → Ps S' → Run (X.suite a ((a, oe) :: pn)) T (b₀ :: suite) ⟨S'.b, S'.sl.set i (some (.dat (rD a)))⟩ { nx := fun S2 => Run X T rest ⟨S2.b, S2.sl.set i none⟩ k, rt := k.rt })
    (hN : X.N.Nodup) (hi : X.N[i]? = some n := by rfl) (hln : X.env.kindOf n = some .local := by rfl) (hs : X.stack = X.env :: X.outer := by rfl) (hf : X.env.frame = some X.env.locals := by rfl) :
    Run X T (.Try body [.ExceptHandler (some (.Name x np)) (some n) (b₀ :: suite) p1] [] [] p2 :: rest) S k := fun B R σ H I D0 L => by
  refine seq_of (ps_try_as (i := i) (tb := fun W D σ H => ∀ pn xe, Takes (X.tr pn xe) W → wpSs (X.tr pn xe) body D σ H) (ts := fun a cls d D σ H => ∀ oe pn, Zc cls d oe → (∃ vs, oe.data = .fields vs) → wpSs (X.suite a ((a, oe) :: pn)) (b₀ :: suite) D σ H) hs hf hN hi hln hc takes0
    (fun W pn xe tk _ => ⟨fun pins s σ H D I h => pss_wp.run pins s σ H D I (h pn xe tk)⟩) (fun a oe cls d pn hz hf => ⟨fun pins s σ H D I h => pss_wp.run pins s σ H D I (h oe pn hz hf)⟩)) ?_
  intro pn xe tk
  refine hb pn xe B R σ H I _ tk (fun S' R' σ' H' hp I' => ⟨true, hm, fun _ a ha oe pn2 hz hf2 => ?_, fun z => by cases z⟩) _
  refine hsu a oe pn2 S' ⟨hz, hf2, List.mem_cons_self⟩ hp B R' (σ'.set i (some (.ref a))) H' (I'.setOne .rf) _ ⟨fun S2 R2 σ2 H2 q I2 => ?_, fun S2 R2 σ2 H2 q I2 => q.elim, fun S2 R2 σ2 H2 q I2 => q.elim, L.rt⟩
  exact q B R2 (σ2.set i none) H2 I2.setNo D0 L
theorem run_exprP (h : EvP X T e S.drp d) (q : Run X T rest S k) (hs : swapsWith e none pos.line X.env = pure false := by rfl) : Run X T (.Expr e pos :: rest) S k := fun B R σ H I D L =>
  seq_of (ps_expr pe_wp hs) (h R σ H I.drp _ fun R1 v H1 d' b1 ⟨e1, e2⟩ I1 n1 r1 => by
    subst e1 e2
    exact q B R1 σ H1 (I.after I1.le n1 I1.tw) D L)
end
end PL
namespace PL
open PySem PySem.Spec PyProof.Rows L2 RZ
open L2H (RoomH)
theorem roomH_mark {k : Nat} {A : Around} {h : Option Value} (r : Room k A) : RoomH k (A.mark h) := ⟨r.dp, r.un⟩
abbrev X3 (P R T D : Addr) : Prop := D = P ∨ D = R ∨ D = T
/-- the program's own exception classes -/
structure XF4 (K : PySem.W.Frag) (P R T C : Addr) : Prop where
  ex : ∀ D, X3 P R T D → ExcC K D
  kP : ∀ D, X3 P R T D → PySem.W.kitOne K (.ref D) (.ref P) = some (decide (D = P))
  kR : ∀ D, X3 P R T D → PySem.W.kitOne K (.ref D) (.ref R) = some (decide (D = R))
  kT : ∀ D, X3 P R T D → PySem.W.kitOne K (.ref D) (.ref T) = some (decide (D = T))
  kC : ∀ D, X3 P R T D → PySem.W.kitOne K (.ref D) (.ref C) = some true
  kV : ∀ D, X3 P R T D → PySem.W.kitOne K (.ref D) (.type "ValueError") = some true
  up : ∀ D, X3 P R T D → PySem.W.exmOne K (.ref D) (.ref C) = some true
  pr : P ≠ R
  pt : P ≠ T
  rt : R ≠ T
theorem kit_ref {K : PySem.W.Frag} {D C : Addr} {b : Bool} (hself : PySem.W.subIn K (.ref C) (.ref C) = some true) (iC : PySem.W.isClsIn K C = true) (tC : PySem.W.typeIn K (.ref C) = some (.type "type")) (s : PySem.W.subIn K (.ref D) (.ref C) = some b) : PySem.W.kitOne K (.ref D) (.ref C) = some b := by
  unfold PySem.W.kitOne
  by_cases g : D = C
  · subst g
    rw [hself] at s
    rw [if_pos (by simp), s]
  · rw [if_neg (by simpa using g)]
    unfold PySem.W.kitCls
    unfold PySem.W.isClsIn at iC
    dsimp only
    rw [iC, tC]
    exact s
theorem kit_type {K : PySem.W.Frag} {D : Addr} {b : Bool} (s : PySem.W.subIn K (.ref D) (.type "ValueError") = some b) : PySem.W.kitOne K (.ref D) (.type "ValueError") = some b := by
  unfold PySem.W.kitOne
  rw [if_neg (by simp)]
  unfold PySem.W.kitCls
  dsimp only
  rw [if_pos (by decide +kernel)]
  exact s
/-- what the kit tells of one class -/
structure XF1 (K : PySem.W.Frag) (D C : Addr) : Prop where
  ga : PySem.W.findIn K (.ref D) "__getattribute__" = some (some (.builtin "BaseException.__getattribute__"))
  gb : PySem.W.findIn K (.ref D) "__getattr__" = some none
  gs : PySem.W.subIn K (.ref D) (.type "BaseException") = some true
  gd : PySem.W.hasDictIn K D = true
  ge : PySem.W.findIn K (.ref D) "__class__" = some (some (.builtin "object.__class__"))
  gn : PySem.W.specialIn K (.builtin "object.__class__") "__get__" = some (some (.builtin "getset_descriptor.__get__"))
  gt : PySem.W.takesIn K (.builtin "object.__class__") = some true
  gm : PySem.W.mroIn K D (.type "object") = some true
  su : PySem.W.subIn K (.ref D) (.ref C) = some true
  sv : PySem.W.subIn K (.ref D) (.type "ValueError") = some true
  ss : PySem.W.subIn K (.ref D) (.ref D) = some true
  ic : PySem.W.isClsIn K D = true
  tc : PySem.W.typeIn K (.ref D) = some (.type "type")
theorem xf4_mk {K : PySem.W.Frag} {P R T C : Addr} (fP : XF1 K P C) (fR : XF1 K R C) (fT : XF1 K T C) (cb : PySem.W.subIn K (.ref C) (.type "BaseException") = some true) (ci : PySem.W.isClsIn K C = true) (ct : PySem.W.typeIn K (.ref C) = some (.type "type")) (cs : PySem.W.subIn K (.ref C) (.ref C) = some true)
    (pr : PySem.W.subIn K (.ref P) (.ref R) = some false) (pt : PySem.W.subIn K (.ref P) (.ref T) = some false) (rp : PySem.W.subIn K (.ref R) (.ref P) = some false) (rt : PySem.W.subIn K (.ref R) (.ref T) = some false) (tp : PySem.W.subIn K (.ref T) (.ref P) = some false) (tr : PySem.W.subIn K (.ref T) (.ref R) = some false) : XF4 K P R T C := by
  have nPR : P ≠ R := fun z => by subst z; rw [fP.ss] at pr; cases pr
  have nPT : P ≠ T := fun z => by subst z; rw [fP.ss] at pt; cases pt
  have nRT : R ≠ T := fun z => by subst z; rw [fR.ss] at rt; cases rt
  have one : ∀ D, X3 P R T D → XF1 K D C := fun D h => by rcases h with rfl | rfl | rfl <;> assumption
  refine ⟨fun D h => ?_, fun D h => ?_, fun D h => ?_, fun D h => ?_, fun D h => ?_, fun D h => ?_, fun D h => ?_, nPR, nPT, nRT⟩
  · have f := one D h
    exact ⟨f.ga, f.gb, f.gs, f.gd, f.ge, f.gn, f.gt, f.gm⟩
  · refine kit_ref fP.ss fP.ic fP.tc ?_
    rcases h with rfl | rfl | rfl
    · rw [fP.ss, decide_eq_true rfl]
    · rw [rp, decide_eq_false nPR.symm]
    · rw [tp, decide_eq_false nPT.symm]
  · refine kit_ref fR.ss fR.ic fR.tc ?_
    rcases h with rfl | rfl | rfl
    · rw [pr, decide_eq_false nPR]
    · rw [fR.ss, decide_eq_true rfl]
    · rw [tr, decide_eq_false nRT.symm]
  · refine kit_ref fT.ss fT.ic fT.tc ?_
    rcases h with rfl | rfl | rfl
    · rw [pt, decide_eq_false nPT]
    · rw [rt, decide_eq_false nRT]
    · rw [fT.ss, decide_eq_true rfl]
  · exact kit_ref cs ci ct (one D h).su
  · exact kit_type (one D h).sv
  · unfold PySem.W.exmOne
    rw [cb, if_pos (by rfl)]
    unfold PySem.W.kitCls
    unfold PySem.W.isClsIn at ci
    dsimp only
    rw [ci, ct]
    exact (one D h).su
theorem opd_repB {X : Cx} {T : Option Addr} {x : PyData} {b : Bool} : OpD X T (binaryOp .Mult) (.list [x]) (nD (if b then 1 else 0)) (.list (if b then [x] else [])) := by
  cases b
  · exact opd_repL (k := 0) (by decide) (by decide) (by rw [sizeLine_eq]; show 1 * 0 ≤ 16777216; decide)
  · exact opd_repL (k := 1) (by decide) (by decide) (by rw [sizeLine_eq]; show 1 * 1 ≤ 16777216; decide)
def nmD (P R D : Addr) : PyData := .list [.str (if D = P then "NoPlace" else if D = R then "NoRest" else "NoText")]
def askD (j : Nat) : PyData := .list [.str (if j < 2 then "NoPlace" else if j < 4 then "NoRest" else "NoText")]
end PL
set_option maxHeartbeats 4000000
/-! what law_k39 asks: papers bent, refusals -/
namespace PL
open PySem PySem.Spec PyProof.Rows L2 RZ
def kdD (P R T D : Addr) : PyData := .tuple [.list [nD (if decide (D = T) then 1 else 0), nD (if decide (D = P) then 1 else 0), nD (if decide (D = R) then 1 else 0)], .bool true]
def kd3 (t p r : Nat) : PyData := .tuple [.list [nD t, nD p, nD r], .bool true]
theorem strOk_small : ∀ n, n < 40 → PyData.strOk (Str.ofString (toString ((n : Nat) : Int))) = true := by decide +kernel
theorem log_small : ∀ n, n < 40 → ((n : Nat) : Int).natAbs.log2 < 1920 := by decide +kernel
abbrev stD (n : Nat) : PyData := .str (Str.ofString (toString ((n : Nat) : Int)))
/-- a place, bent -/
def bdL (x : Nat) : List PyData := [nD (x + 1), .int ((x : Int) - ((1 : Nat) : Int)), .bool ((x : Int) != 0), stD x, .none, .tuple [nD x], .list [nD x]]
def btD (l : List Nat) (i : Nat) (b : PyData) : PyData := .tuple (PL.cutD (l.map nD) none (some (i : Int)) ++ [b] ++ PL.cutD (l.map nD) (some ((i + 1 : Nat) : Int)) none)
def bI (l : List Nat) (i : Nat) : List PyData := ((List.range i).map fun a => (bdL (l.getD a 0)).map (btD l a)).flatten
def b0 (l : List Nat) : List PyData := [.list (l.map nD), .tuple (l.map nD ++ [nD 0]), .tuple (PL.cutD (l.map nD) (some ((1 : Nat) : Int)) none), .tuple (PL.cutD (l.map nD) none (some (-((1 : Nat) : Int)))), eT l.reverse, .tuple (l.map nD ++ l.map nD)] ++ [.tuple [eT l], .none, .bool true, nD 7, .str "a"]
def bentD (l : List Nat) : List PyData := b0 l ++ bI l l.length
theorem bI_succ (l : List Nat) (i : Nat) : bI l (i + 1) = bI l i ++ (bdL (l.getD i 0)).map (btD l i) := by
  unfold bI
  rw [List.range_succ, List.map_append, List.flatten_append]
  simp
theorem bI_len (l : List Nat) : ∀ i, (bI l i).length = 7 * i
  | 0 => rfl
  | i + 1 => by rw [bI_succ, List.length_append, bI_len l i, List.length_map]; show 7 * i + 7 = _; omega
theorem b0_len (l : List Nat) : (b0 l).length = 11 := rfl
theorem nc_ty {n : Nat} {d : PyData} (h : nc n d = true) : (tyD d).isSome = true := by
  cases d with
  | dict kvs => cases n <;> cases h
  | _ => rfl
theorem good_nc {n : Nat} {ds : List PyData} (hn : n ≤ 60) (h : ∀ d ∈ ds, nc n d = true) (hl : ds.length ≤ 100000) : Good (.tuple ds) := ⟨rfl, fun es e => by
  cases e
  have ha : ds.all (nc n) = true := List.all_eq_true.mpr h
  obtain ⟨a1, a2, a3⟩ := nc_all (nc_ok n) ds ha
  refine ⟨?_, hl, fun x hx => nc_ty (h x hx)⟩
  unfold SeqAt.shaped
  rw [Bool.and_eq_true, decide_eq_true_eq]
  exact ⟨a1, by show PyData.depthAll ds + 1 ≤ 64; omega⟩⟩
theorem nc_flat {n : Nat} {d : PyData} (h : flatI d = true) : nc n d = true := by
  cases d <;> first | (cases n <;> rfl) | (cases n <;> exact h) | cases h
theorem good_b0 {l : List Nat} (hl : l.length ≤ 1000) : ∀ d ∈ b0 l, Good d := by
  intro d hd
  unfold b0 at hd
  have fN : ∀ d ∈ l.map nD, flatI d = true := flat_N
  have f0 : flatI (nD 0) = true := rfl
  rcases List.mem_append.mp hd with h | h
  · simp only [List.mem_cons, List.not_mem_nil, or_false] at h
    rcases h with rfl | rfl | rfl | rfl | rfl | rfl
    · exact good_list _
    · refine good_flatT (fun d hd => ?_) (by rw [List.length_append, List.length_map]; show l.length + 1 ≤ _; omega)
      rcases List.mem_append.mp hd with h | h
      · exact fN d h
      · rw [List.mem_singleton] at h; subst h; rfl
    · exact good_flatT (fun d hd => fN d (cutD_mem hd)) (Nat.le_trans cutD_len (by rw [List.length_map]; omega))
    · exact good_flatT (fun d hd => fN d (cutD_mem hd)) (Nat.le_trans cutD_len (by rw [List.length_map]; omega))
    · exact good_N _ (by rw [List.length_reverse]; omega)
    · exact good_flatT (fun d hd => (List.mem_append.mp hd).elim (fN d) (fN d)) (by rw [List.length_append, List.length_map]; omega)
  · simp only [List.mem_cons, List.not_mem_nil, or_false] at h
    rcases h with rfl | rfl | rfl | rfl | rfl
    · exact good_TT l
    · exact ⟨rfl, fun _ e => by cases e⟩
    · exact ⟨rfl, fun _ e => by cases e⟩
    · exact ⟨rfl, fun _ e => by cases e⟩
    · exact ⟨rfl, fun _ e => by cases e⟩
theorem nc_bd {x : Nat} (hx : x < 40) : ∀ d ∈ bdL x, nc 1 d = true := by
  intro d hd
  unfold bdL at hd
  simp only [List.mem_cons, List.not_mem_nil, or_false] at hd
  rcases hd with rfl | rfl | rfl | rfl | rfl | rfl | rfl
  · rfl
  · rfl
  · rfl
  · exact strOk_small x hx
  · rfl
  · rfl
  · rfl
theorem good_bt {l : List Nat} {i : Nat} {b : PyData} (hl : l.length ≤ 1000) (hb : nc 1 b = true) : Good (btD l i b) := by
  unfold btD
  refine good_nc (n := 1) (by decide) (fun d hd => ?_) ?_
  · rcases List.mem_append.mp hd with h | h
    · rcases List.mem_append.mp h with h | h
      · exact nc_flat (flat_N d (cutD_mem h))
      · rw [List.mem_singleton] at h; subst h; exact hb
    · exact nc_flat (flat_N d (cutD_mem h))
  · rw [List.length_append, List.length_append]
    have z1 := cutD_len (ds := l.map nD) (lo := none) (hi := some (i : Int))
    have z2 := cutD_len (ds := l.map nD) (lo := some ((i + 1 : Nat) : Int)) (hi := none)
    rw [List.length_map] at z1 z2
    show _ + 1 + _ ≤ _
    omega
theorem good_bent {l : List Nat} (hl : l.length ≤ 1000) (hx : ∀ x ∈ l, x < 40) : ∀ d ∈ bentD l, Good d := by
  intro d hd
  unfold bentD at hd
  rcases List.mem_append.mp hd with h | h
  · exact good_b0 hl d h
  · unfold bI at h
    obtain ⟨ds, h1, h2⟩ := List.mem_flatten.mp h
    obtain ⟨i, hi, rfl⟩ := List.mem_map.mp h1
    obtain ⟨b, hb, rfl⟩ := List.mem_map.mp h2
    refine good_bt hl (nc_bd ?_ b hb)
    have hi := List.mem_range.mp hi
    rw [List.getD_eq_getElem?_getD, List.getElem?_eq_getElem hi]
    exact hx _ (List.getElem_mem hi)
theorem paper_T {ds : List PyData} {l : List Nat} : paper l (.tuple ds) = (PyData.eqv (.tuple ds) (eT l) && (ds.filter isBl).isEmpty) := by
  show (PyData.eqvAll ds (l.map nD) && ds.all plainI) = (PyData.eqvAll ds (l.map nD) && _)
  cases h : PyData.eqvAll ds (l.map nD) with
  | false => rfl
  | true => rw [paper_bl h]
theorem any_bl (ds : List PyData) : (!(ds.map isBl).any id) = (ds.filter isBl).isEmpty := by
  induction ds with
  | nil => rfl
  | cons d ds ih =>
    rw [List.map_cons, List.any_cons, List.filter_cons]
    cases h : isBl d with
    | true => simp
    | false => simp only [id, Bool.false_or]; exact ih
/-- what is asked of the three that refuse -/
structure A39 where
  w : Nat
  one : Nat
  p : Nat
  z : Int
  l : List Nat
def enc39 (a : A39) : List PyData := [tD (if a.w = 0 then [112, 108, 97, 99, 101] else if a.w = 1 then [102, 105, 114, 115, 116] else [114, 101, 97, 100]), nD a.one, nD a.p, if a.w < 2 then .int a.z else tD a.l]
noncomputable def out39 (a : A39) : PyData :=
  if a.w = 0 then (if 0 ≤ a.z ∧ a.z < (PL.cnt a.p a.one : Int) then .none else kd3 0 1 0)
  else if a.w = 1 then (if 0 ≤ a.z ∧ a.z < (a.p : Int) then .none else kd3 0 0 1)
  else if (rdS a.l).isSome then .none else kd3 1 0 0
theorem kd_P {K : PySem.W.Frag} {P R T C : Addr} (x : XF4 K P R T C) : kdD P R T P = kd3 0 1 0 := by
  unfold kdD kd3
  rw [decide_eq_false x.pt, decide_eq_true rfl, decide_eq_false x.pr]; rfl
theorem kd_R {K : PySem.W.Frag} {P R T C : Addr} (x : XF4 K P R T C) : kdD P R T R = kd3 0 0 1 := by
  unfold kdD kd3
  rw [decide_eq_false x.rt, decide_eq_false x.pr.symm, decide_eq_true rfl]; rfl
theorem kd_T {K : PySem.W.Frag} {P R T C : Addr} (x : XF4 K P R T C) : kdD P R T T = kd3 1 0 0 := by
  unfold kdD kd3
  rw [decide_eq_true rfl, decide_eq_false x.pt.symm, decide_eq_false x.rt.symm]; rfl
end PL
set_option Elab.async false
set_option linter.all false
set_option maxRecDepth 100000
set_option maxHeartbeats 4000000
namespace G
open PySem PySem.Spec PyProof.Rows L2 RZ PL
local macro_rules | `(tactic| walk_at "sd") => `(tactic| first | assumption | omega | ((try dsimp only [PreN, Pre2]); (first | assumption | omega | (refine ⟨by (try dsimp only); omega, .inl (by (try dsimp only); omega)⟩) | (exact .inl (by omega)) | (exact .inr (.inl (by omega))) | (show _ ∧ _; omega) | decide)))
local macro_rules | `(tactic| walk_at "sz") => `(tactic| ((first | rw [sizeLine_eq] | skip); (first | omega | (simp only [List.length_map, List.length_append, List.length_cons, List.length_nil, List.length_replicate, List.length_reverse, List.length_range, rgN_length] at *; omega))))
local macro_rules | `(tactic| walk_at "nol") => `(tactic| first | rfl | exact noL_nDs _ | exact noLs_nD _)
local macro_rules | `(tactic| walk_at "dp") => `(tactic| repeat (first | exact deep_nD | exact deep_z | exact deep_b | exact deep_0 | exact deep_s | exact deep_N (by dsimp only; omega) | exact deep_N (by assumption) | exact all_n | refine all_c ?_ ?_ | refine deep_t ?_ (by simp) | refine deep_N ?_))
local macro_rules | `(tactic| walk_at "lo") => `(tactic| first | exact .inl rfl | exact .inr rfl)
def topS (i : Nat) : Stmt := PySem.Challenge.pw_primechoices_k39_whole_papers_and_refusa.main.body.getD i (.Pass ⟨0, 0, 0, 0⟩)
abbrev s_figures : Stmt := topS 1
abbrev n_figures : List Str := ["number", "prime", "found"]
theorem sc_figures : FnScope n_figures ["number", "prime"] (defScope s_figures) := ⟨rfl, rfl, rfl, by decide +kernel, rfl, by decide +kernel, by decide +kernel⟩
abbrev s_number_of : Stmt := topS 2
abbrev n_number_of : List Str := ["some", "prime", "found", "figure"]
theorem sc_number_of : FnScope n_number_of ["some", "prime"] (defScope s_number_of) := ⟨rfl, rfl, rfl, by decide +kernel, rfl, by decide +kernel, by decide +kernel⟩
abbrev s_raised : Stmt := topS 3
abbrev n_raised : List Str := ["number", "times", "found", "turn"]
theorem sc_raised : FnScope n_raised ["number", "times"] (defScope s_raised) := ⟨rfl, rfl, rfl, by decide +kernel, rfl, by decide +kernel, by decide +kernel⟩
abbrev s_figure_at : Stmt := topS 4
abbrev n_figure_at : List Str := ["number", "prime", "place"]
theorem sc_figure_at : FnScope n_figure_at ["number", "prime", "place"] (defScope s_figure_at) := ⟨rfl, rfl, rfl, by decide +kernel, rfl, by decide +kernel, by decide +kernel⟩
abbrev s_carry_places : Stmt := topS 5
abbrev n_carry_places : List Str := ["one", "other", "prime", "found", "place", "carry", "total"]
theorem sc_carry_places : FnScope n_carry_places ["one", "other", "prime"] (defScope s_carry_places) := ⟨rfl, rfl, rfl, by decide +kernel, rfl, by decide +kernel, by decide +kernel⟩
abbrev s_choose : Stmt := topS 7
abbrev n_choose : List Str := ["many", "some", "found", "turn"]
theorem sc_choose : FnScope n_choose ["many", "some"] (defScope s_choose) := ⟨rfl, rfl, rfl, by decide +kernel, rfl, by decide +kernel, by decide +kernel⟩
abbrev s_rest : Stmt := topS 8
abbrev n_rest : List Str := ["many", "some", "prime", "found", "place"]
theorem sc_rest : FnScope n_rest ["many", "some", "prime"] (defScope s_rest) := ⟨rfl, rfl, rfl, by decide +kernel, rfl, by decide +kernel, by decide +kernel⟩
abbrev s_is_carry_paper : Stmt := topS 10
abbrev n_is_carry_paper : List Str := ["many", "some", "prime", "thing"]
theorem sc_is_carry_paper : FnScope n_is_carry_paper ["many", "some", "prime", "thing"] (defScope s_is_carry_paper) := ⟨rfl, rfl, rfl, by decide +kernel, rfl, by decide +kernel, by decide +kernel⟩
abbrev s_are_places : Stmt := topS 11
abbrev n_are_places : List Str := ["thing", "one"]
theorem sc_are_places : FnScope n_are_places ["thing"] (defScope s_are_places) := ⟨rfl, rfl, rfl, by decide +kernel, rfl, by decide +kernel, by decide +kernel⟩
abbrev s_count : Stmt := topS 18
abbrev n_count : List Str := ["many", "prime", "found", "figure"]
theorem sc_count : FnScope n_count ["many", "prime"] (defScope s_count) := ⟨rfl, rfl, rfl, by decide +kernel, rfl, by decide +kernel, by decide +kernel⟩
abbrev s_place_at : Stmt := topS 19
abbrev n_place_at : List Str := ["many", "prime", "number", "found", "figure"]
theorem sc_place_at : FnScope n_place_at ["many", "prime", "number"] (defScope s_place_at) := ⟨rfl, rfl, rfl, by decide +kernel, rfl, by decide +kernel, by decide +kernel⟩
abbrev s_first_with : Stmt := topS 21
abbrev n_first_with : List Str := ["prime", "told", "many", "some"]
theorem sc_first_with : FnScope n_first_with ["prime", "told", "many"] (defScope s_first_with) := ⟨rfl, rfl, rfl, by decide +kernel, rfl, by decide +kernel, by decide +kernel⟩
abbrev s_read : Stmt := topS 25
abbrev n_read : List Str := ["text", "words", "prime", "sign"]
theorem sc_read : FnScope n_read ["text"] (defScope s_read) := ⟨rfl, rfl, rfl, by decide +kernel, rfl, by decide +kernel, by decide +kernel⟩
abbrev s__law_draw : Stmt := topS 27
abbrev n__law_draw : List Str := ["_law_script", "_law_town", "_law_many", "_law_k", "_law_cell", "_law_number_here", "_law_more"]
theorem sc__law_draw : FnScope n__law_draw ["_law_script", "_law_town", "_law_many"] (defScope s__law_draw) := ⟨rfl, rfl, rfl, by decide +kernel, rfl, by decide +kernel, by decide +kernel⟩
abbrev s__law_pick : Stmt := topS 28
abbrev n__law_pick : List Str := ["_law_script", "_law_town", "_law_some"]
theorem sc__law_pick : FnScope n__law_pick ["_law_script", "_law_town", "_law_some"] (defScope s__law_pick) := ⟨rfl, rfl, rfl, by decide +kernel, rfl, by decide +kernel, by decide +kernel⟩
abbrev s__law_prime : Stmt := topS 29
abbrev n__law_prime : List Str := ["_law_script", "_law_town"]
theorem sc__law_prime : FnScope n__law_prime ["_law_script", "_law_town"] (defScope s__law_prime) := ⟨rfl, rfl, rfl, by decide +kernel, rfl, by decide +kernel, by decide +kernel⟩
abbrev s__law_number : Stmt := topS 30
abbrev n__law_number : List Str := ["_law_script", "_law_town", "_law_prime_here", "_law_far", "_law_number_here", "_law_top"]
theorem sc__law_number : FnScope n__law_number ["_law_script", "_law_town", "_law_prime_here"] (defScope s__law_number) := ⟨rfl, rfl, rfl, by decide +kernel, rfl, by decide +kernel, by decide +kernel⟩
abbrev s__law_raised : Stmt := topS 31
abbrev n__law_raised : List Str := ["_law_number_here", "_law_many", "_law_got", "_law_turn"]
theorem sc__law_raised : FnScope n__law_raised ["_law_number_here", "_law_many"] (defScope s__law_raised) := ⟨rfl, rfl, rfl, by decide +kernel, rfl, by decide +kernel, by decide +kernel⟩
abbrev s__law_bent : Stmt := topS 32
abbrev n__law_bent : List Str := ["_law_places", "_law_got", "_law_at", "_law_one", "_law_bad"]
theorem sc__law_bent : FnScope n__law_bent ["_law_places"] (defScope s__law_bent) := ⟨rfl, rfl, rfl, by decide +kernel, rfl, by decide +kernel, by decide +kernel⟩
abbrev s__law_same : Stmt := topS 33
abbrev n__law_same : List Str := ["_law_thing", "_law_places", "_law_one"]
theorem sc__law_same : FnScope n__law_same ["_law_thing", "_law_places"] (defScope s__law_same) := ⟨rfl, rfl, rfl, by decide +kernel, rfl, by decide +kernel, by decide +kernel⟩
abbrev s__law_kind : Stmt := topS 34
abbrev n__law_kind : List Str := ["_law_error", "_law_got"]
theorem sc__law_kind : FnScope n__law_kind ["_law_error"] (defScope s__law_kind) := ⟨rfl, rfl, rfl, by decide +kernel, rfl, by decide +kernel, by decide +kernel⟩
abbrev s__law_told : Stmt := topS 35
abbrev n__law_told : List Str := ["_law_word", "_law_one", "_law_prime_here", "_law_number_here", "e"]
theorem sc__law_told : FnScope n__law_told ["_law_word", "_law_one", "_law_prime_here", "_law_number_here"] (defScope s__law_told) := ⟨rfl, rfl, rfl, by decide +kernel, rfl, by decide +kernel, by decide +kernel⟩
abbrev s_law : Stmt := topS 36
abbrev n_law : List Str := ["_law_script", "_law_town", "_law_k", "_law_prime_here", "_law_many", "_law_some", "_law_places", "_law_bad", "_law_number_here", "_law_small", "_law_text"]
theorem sc_law : FnScope n_law ["_law_script"] (defScope s_law) := ⟨rfl, rfl, rfl, by decide +kernel, rfl, by decide +kernel, by decide +kernel⟩
section
variable {P : Program} {w : World} {K : PySem.W.Frag} {mg : Str → Option Value} {base : Heap}
theorem ok_figures (D : DefAt K mg "figures" s_figures ["number", "prime"]) (bi : BI mg)   : Callee P w K mg base "figures" 1 sp_figures := by
  have sc := sc_figures
  refine callee_of D sc mono_E (len_E fun _ => rfl) (fun f cdv A outer s H E hr ds κ h => ?_)
  obtain ⟨⟨n, p⟩, rfl, ⟨hn, h2, h7⟩, hk⟩ := h
  have hlen := figs_len h2 200 n hn
  refine run_asgP 2 (evp_tup eva_nil) ?_ sc.nd
  refine run_while (fun m S => ∃ n' fs, S = ⟨0, [some (.dat (nD n')), some (.dat (nD p)), some (.dat (eT fs))]⟩ ∧ m = n' ∧ fs ++ figs p n' = figs p n) n ⟨n, [], rfl, rfl, rfl⟩ ?_
  rintro m S ⟨n', fs, rfl, rfl, e⟩
  refine ⟨_, (et_cmp (evp_var 0 rfl) (evp_nat 0) opn_gt (nomark _)), fun hb => ?_, fun hb => ?_⟩
  · have hb := of_decide_eq_true hb
    rw [figs_pos h2 hb] at e
    have hl := congrArg List.length e
    simp only [List.length_append, List.length_cons] at hl
    refine run_asgP 2 (evp_bin (evp_var 2 rfl) (evp_tup (evap_cons (evp_bin (evp_var 0 rfl) (evp_var 1 rfl) (opn_mod (by walk_at "sd"))) eva_nil)) (opn_snoc (by walk_at "sz"))) ?_ sc.nd
    refine run_asgP 0 (evp_bin (evp_var 0 rfl) (evp_var 1 rfl) (opn_fdv (by walk_at "sd"))) ?_ sc.nd
    exact run_nil ⟨m / p, Nat.div_lt_self hb h2, m / p, _, rfl, rfl, by rw [← e, List.append_assoc]; rfl⟩
  · have h0 : m = 0 := by simpa using hb
    subst h0
    rw [figs_zero, List.append_nil] at e
    subst e
    exact run_retP (evp_var 2 rfl) hk

theorem ok_number_of (D : DefAt K mg "number_of" s_number_of ["some", "prime"]) (bi : BI mg)   : Callee P w K mg base "number_of" 1 sp_number_of := by
  have sc := sc_number_of
  refine callee_of D sc mono_E (len_E fun _ => rfl) (fun f cdv A outer s H E hr ds κ h => ?_)
  obtain ⟨⟨ds, p⟩, rfl, h7, hk⟩ := h
  refine run_asgP 2 (evp_nat 0) ?_ sc.nd
  refine run_forP (eip_tup (evn_revT (evp_var 0 rfl))) (pg_name (i := 3) sc.nd rfl (by walk_at "lo")) (fun i S => ∃ d3, S = ⟨0, [some (.dat (eT ds)), some (.dat (nD p)), some (.dat (nD (numOf p (ds.drop (ds.length - i))))), d3]⟩) ⟨none, ?_⟩ (fun i x S hx ⟨d3, eS⟩ => ?_) (fun S ⟨d3, eS⟩ => ?_)
  · show _ = Sta.mk 0 [_, _, some (.dat (nD (numOf p (ds.drop (ds.length - 0))))), none]
    rw [Nat.sub_zero, List.drop_length]; rfl
  · subst eS
    rw [List.getElem?_map] at hx
    cases w : ds.reverse[i]? with
    | none => rw [w] at hx; cases hx
    | some y =>
      rw [w] at hx
      cases hx
      have hi : i < ds.length := by have := (List.getElem?_eq_some_iff.mp w).1; rwa [List.length_reverse] at this
      rw [List.getElem?_reverse hi] at w
      have e1 : ds.drop (ds.length - (i + 1)) = y :: ds.drop (ds.length - i) := by
        have h1 : ds.length - 1 - i < ds.length := by omega
        rw [List.getElem?_eq_getElem h1] at w
        rw [show ds.length - (i + 1) = ds.length - 1 - i by omega, List.drop_eq_getElem_cons h1, Option.some.inj w, show ds.length - 1 - i + 1 = ds.length - i by omega]
      refine ⟨_, gs_name, ?_⟩
      refine run_asgP 2 (evp_bin (evp_bin (evp_var 2 rfl) (evp_var 1 rfl) (opn_mul (by walk_at "sd"))) (evp_var 3 rfl) opn_add) ?_ sc.nd
      refine run_nil ⟨some (.dat (nD y)), ?_⟩
      show _ = Sta.mk 0 [_, _, some (.dat (nD (numOf p (ds.drop (ds.length - (i + 1)))))), _]
      rw [e1]; rfl
  · subst eS
    refine run_retP (evp_var 2 rfl) ?_
    rw [List.length_map, List.length_reverse, Nat.sub_self, List.drop_zero]
    exact hk

theorem ok_raised (D : DefAt K mg "raised" s_raised ["number", "times"]) (bi : BI mg)   : Callee P w K mg base "raised" 1 sp_raised := by
  have sc := sc_raised
  refine callee_of D sc mono_E (len_E fun _ => rfl) (fun f cdv A outer s H E hr ds κ h => ?_)
  obtain ⟨⟨n, k'⟩, rfl, ⟨hn, hk'⟩, hk⟩ := h
  refine run_asgP 2 (evp_nat 1) ?_ sc.nd
  refine run_forP (ein_rng (evp_var 1 rfl) bi.range (by walk_at "sd")) (pg_name (i := 3) sc.nd rfl (by walk_at "lo")) (fun i S => ∃ d3, S = ⟨0, [some (.dat (nD n)), some (.dat (nD k')), some (.dat (nD (n ^ i))), d3]⟩) ⟨none, rfl⟩ (fun i x S hx ⟨d3, eS⟩ => ?_) (fun S ⟨d3, eS⟩ => ?_)
  · subst eS
    refine ⟨_, gs_name, ?_⟩
    refine run_asgP 2 (evp_bin (evp_var 2 rfl) (evp_var 0 rfl) (opn_mul (by walk_at "sd"))) ?_ sc.nd
    exact run_nil ⟨_, rfl⟩
  · subst eS
    rw [rgN_length]
    exact run_retP (evp_var 2 rfl) hk

theorem ok_figure_at (D : DefAt K mg "figure_at" s_figure_at ["number", "prime", "place"]) (bi : BI mg)  (c_raised : Callee P w K mg base "raised" 1 sp_raised) : Callee P w K mg base "figure_at" 2 sp_figure_at := by
  have sc := sc_figure_at
  refine callee_of D sc mono_E (len_E fun _ => rfl) (fun f cdv A outer s H E hr ds κ h => ?_)
  obtain ⟨⟨n, p, i⟩, rfl, ⟨h2, h7, hi⟩, hk⟩ := h
  have h2' : 2 ≤ p := h2
  have h7' : p ≤ 7 := h7
  have hi' : i ≤ 60 := hi
  have hp : 0 < p ^ i := Nat.pow_pos (by omega)
  have hlt := pow7_lt h7' hi'
  exact run_retP (evp_bin (evp_bin (evp_var 0 rfl) (evp_fn c_raised (hr.mono (by decide)) (evap_cons (evp_var 1 rfl) (evap_cons (evp_var 2 rfl) eva_nil)) ⟨(_, _), rfl, (by walk_at "sd"), rfl⟩) (opn_fdv (by walk_at "sd"))) (evp_var 1 rfl) (opn_mod (by walk_at "sd"))) hk

theorem ok_carry_places (D : DefAt K mg "carry_places" s_carry_places ["one", "other", "prime"]) (bi : BI mg)   : Callee P w K mg base "carry_places" 1 sp_carry_places := by
  have sc := sc_carry_places
  refine callee_of D sc mono_E (len_E fun _ => rfl) (fun f cdv A outer s H E hr ds κ h => ?_)
  obtain ⟨⟨a, b, p⟩, rfl, ⟨ha, hb, h2, h7⟩, hk⟩ := h
  have h2 : 2 ≤ p := h2
  have h7 : p ≤ 7 := h7
  have ha : a < 2 ^ 150 := ha
  have hb : b < 2 ^ 150 := hb
  refine run_asgP 3 (evp_tup eva_nil) ?_ sc.nd
  refine run_asgP 4 (evp_nat 0) ?_ sc.nd
  refine run_asgP 5 (evp_nat 0) ?_ sc.nd
  refine run_while (fun m S => ∃ i d6, S = ⟨0, [some (.dat (nD (a / p ^ i))), some (.dat (nD (b / p ^ i))), some (.dat (nD p)), some (.dat (eT (cyR p i a b))), some (.dat (nD i)), some (.dat (nD (if cyB p a b i then 1 else 0))), d6]⟩ ∧ m = a / p ^ i + b / p ^ i + (if cyB p a b i then 1 else 0)) (a + b) ⟨0, none, ?_, ?_⟩ ?_
  · rw [cyB_zero, Nat.pow_zero, Nat.div_one, Nat.div_one]; rfl
  · rw [cyB_zero, Nat.pow_zero, Nat.div_one, Nat.div_one]; rfl
  rintro m S ⟨i, d6, rfl, rfl⟩
  have nA := Nat.zero_le (a / p ^ i)
  have nB := Nat.zero_le (b / p ^ i)
  refine ⟨_, (et_w (ew_or (et_cmp (evp_var 0 rfl) (evp_nat 0) opn_gt (nomark _)) fun _ => (ew_or (et_cmp (evp_var 1 rfl) (evp_nat 0) opn_gt (nomark _)) fun _ => (ew_or1 (et_cmp (evp_var 5 rfl) (evp_nat 0) opn_gt (nomark _)))))), fun hc => ?_, fun hc => ?_⟩
  · have hc : 0 < a / p ^ i + b / p ^ i + (if cyB p a b i then 1 else 0) := by
      rcases Bool.or_eq_true _ _ |>.mp hc with g | g
      · have := of_decide_eq_true g; omega
      · rcases Bool.or_eq_true _ _ |>.mp g with g | g
        · have := of_decide_eq_true g; omega
        · have := of_decide_eq_true g; omega
    have hi : (cyR p i a b).length ≤ i := cyR_len _ _ _ _
    have hi2 : i ≤ 200 := by
      apply Nat.le_of_not_lt; intro g
      have g1 : a + b < p ^ i := by
        have := Nat.le_trans (pow2_le_pow (K := i) h2) (Nat.le_refl _)
        have g3 : 2 ^ 151 ≤ 2 ^ i := Nat.pow_le_pow_right (by omega) (by omega)
        omega
      rw [Nat.div_eq_of_lt (by omega), Nat.div_eq_of_lt (by omega), cyB_big g1] at hc
      simp at hc
    have ed1 : a / p ^ (i + 1) = a / p ^ i / p := by rw [Nat.pow_succ, Nat.div_div_eq_div_mul]
    have ed2 : b / p ^ (i + 1) = b / p ^ i / p := by rw [Nat.pow_succ, Nat.div_div_eq_div_mul]
    have st := cyB_step h2 a b i
    generalize hA : a / p ^ i = A at *
    generalize hB : b / p ^ i = B at *
    generalize hC : (if cyB p a b i then 1 else 0 : Nat) = C at *
    have hC1 : C ≤ 1 := by rw [← hC]; split <;> omega
    refine run_asgP 6 (evp_bin (evp_bin (evp_bin (evp_var 0 rfl) (evp_var 2 rfl) (opn_mod (by walk_at "sd"))) (evp_bin (evp_var 1 rfl) (evp_var 2 rfl) (opn_mod (by walk_at "sd"))) opn_add) (evp_var 5 rfl) opn_add) ?_ sc.nd
    refine run_asgP 5 ((evp_ty (evap_cons (evp_cmp (evp_var 6 rfl) (evp_var 2 rfl) opn_ge (nomark _)) eva_nil) cdn_intB bi.int (by decide +kernel)).is (d' := nD (if cyB p a b (i + 1) then 1 else 0)) (by rw [st])) ?_ sc.nd
    refine run_ifM (fun S => S = ⟨0, [some (.dat (nD A)), some (.dat (nD B)), some (.dat (nD p)), some (.dat (eT (cyR p (i + 1) a b))), some (.dat (nD i)), some (.dat (nD (if cyB p a b (i + 1) then 1 else 0))), some (.dat (nD (A % p + B % p + C)))]⟩) (et_cmp (evp_var 5 rfl) (evp_nat 1) opn_eq (nomark _)) (fun hb => ?_) (fun hb => ?_) ?_
    · have hb : cyB p a b (i + 1) = true := by cases h : cyB p a b (i + 1) <;> simp [h] at hb; rfl
      refine run_asgP 3 (evp_bin (evp_var 3 rfl) (evp_tup (evap_cons (evp_var 4 rfl) eva_nil)) (opn_snoc (by walk_at "sz"))) ?_ sc.nd
      refine run_nil ?_
      rw [cyR_succ, hb]; rfl
    · have hb : cyB p a b (i + 1) = false := by cases h : cyB p a b (i + 1) <;> simp [h] at hb; rfl
      refine run_nil ?_
      rw [cyR_succ, hb, if_neg (by decide), List.append_nil]; rfl
    · rintro S rfl
      refine run_asgP 0 (evp_bin (evp_var 0 rfl) (evp_var 2 rfl) (opn_fdv (by walk_at "sd"))) ?_ sc.nd
      refine run_asgP 1 (evp_bin (evp_var 1 rfl) (evp_var 2 rfl) (opn_fdv (by walk_at "sd"))) ?_ sc.nd
      refine run_asgP 4 (evp_bin (evp_var 4 rfl) (evp_nat 1) opn_add) ?_ sc.nd
      refine run_nil ⟨A / p + B / p + (if cyB p a b (i + 1) then 1 else 0), ?_, i + 1, some (.dat (nD (A % p + B % p + C))), ?_, by rw [ed1, ed2]⟩
      · rw [st]
        have dA := Nat.div_add_mod A p
        have dB := Nat.div_add_mod B p
        have mA : 2 * (A / p) ≤ p * (A / p) := Nat.mul_le_mul_right _ h2
        have mB : 2 * (B / p) ≤ p * (B / p) := Nat.mul_le_mul_right _ h2
        by_cases g : p ≤ A % p + B % p + C
        · rw [decide_eq_true g, if_pos rfl]; omega
        · rw [decide_eq_false g, if_neg (by decide)]; omega
      · rw [ed1, ed2]; rfl
  · simp only [Bool.or_eq_false_iff, decide_eq_false_iff_not] at hc
    obtain ⟨hc1, hc2, hc3⟩ := hc
    have hp : 0 < p ^ i := Nat.pow_pos (by omega)
    have g1 : a < p ^ i := by
      have := Nat.div_eq_zero_iff.mp (by omega : a / p ^ i = 0); omega
    have g2 : b < p ^ i := by
      have := Nat.div_eq_zero_iff.mp (by omega : b / p ^ i = 0); omega
    have g3 : a + b < p ^ i := by
      cases h : cyB p a b i with
      | true => rw [h] at hc3; simp at hc3
      | false =>
        unfold cyB at h
        rw [Nat.mod_eq_of_lt g1, Nat.mod_eq_of_lt g2] at h
        have := of_decide_eq_false h; omega
    rw [cyR_eq h2 g3]
    exact run_retP (evp_var 3 rfl) hk

theorem ok_choose (D : DefAt K mg "choose" s_choose ["many", "some"]) (bi : BI mg)   : Callee P w K mg base "choose" 1 sp_choose := by
  have sc := sc_choose
  refine callee_of D sc mono_E (len_E fun _ => rfl) (fun f cdv A outer s H E hr ds κ h => ?_)
  obtain ⟨⟨n, k⟩, rfl, hn, hk⟩ := h
  have hn : n < 2 ^ 60 := hn
  have hk : κ (nD (CZ n k)) := hk
  refine run_if (et_w (ew_or (et_cmp (evp_var 1 rfl) evp_int opd_lt (nomark _)) fun _ => (ew_or1 (et_cmp (evp_var 1 rfl) (evp_var 0 rfl) opd_gt (nomark _))))) (fun hb => ?_) (fun hb => ?_)
  · rw [CZ_out (by simpa using hb)] at hk
    exact run_retP (evp_nat 0) hk
  refine run_nil ?_
  obtain ⟨j, rfl⟩ : ∃ j : Nat, k = (j : Int) := ⟨k.toNat, by simp at hb; omega⟩
  have hj : j ≤ n := by simp at hb; omega
  rw [CZ_nat] at hk
  clear hb
  refine run_asgP 2 (evp_nat 1) ?_ sc.nd
  refine run_forP (ein_rng (evp_bi (evap_cons (evp_var 1 rfl) (evap_cons (evp_bin (evp_var 0 rfl) (evp_var 1 rfl) (opn_sub (by walk_at "sd"))) eva_nil)) cdn_min2 bi.min (by decide +kernel)) bi.range (by walk_at "sd")) (pg_name (i := 3) sc.nd rfl (by walk_at "lo")) (fun i S => ∃ d3, S = ⟨0, [some (.dat (nD n)), some (.dat (nD j)), some (.dat (nD (C n i))), d3]⟩) ⟨none, by rw [C_zero]; rfl⟩ (fun i x S hx ⟨d3, eS⟩ => ?_) (fun S ⟨d3, eS⟩ => ?_)
  · subst eS
    obtain ⟨hi, rfl⟩ := rgN_get hx
    refine ⟨_, gs_name, ?_⟩
    refine run_asgP 2 ((evp_bin (evp_bin (evp_var 2 rfl) (evp_bin (evp_var 0 rfl) (evp_var 3 rfl) (opn_sub (by omega))) (opn_mul (by walk_at "sd"))) (evp_bin (evp_var 3 rfl) (evp_nat 1) opn_add) (opn_fdv (by walk_at "sd"))).is (d' := nD (C n (i + 1))) (by rw [C_next (by omega)])) ?_ sc.nd
    exact run_nil ⟨_, rfl⟩
  subst eS
  rw [rgN_length, C_min hj]
  exact run_retP (evp_var 2 rfl) hk

theorem ok_rest (D : DefAt K mg "rest" s_rest ["many", "some", "prime"]) (bi : BI mg)  (c_figures : Callee P w K mg base "figures" 1 sp_figures) (c_choose : Callee P w K mg base "choose" 1 sp_choose) (c_figure_at : Callee P w K mg base "figure_at" 2 sp_figure_at) : Callee P w K mg base "rest" 3 sp_rest := by
  have sc := sc_rest
  refine callee_of D sc mono_E (len_E fun _ => rfl) (fun f cdv A outer s H E hr ds κ h => ?_)
  obtain ⟨⟨n, k, p⟩, rfl, ⟨hn, hp⟩, hk⟩ := h
  have hn : n < 2 ^ 60 := hn
  have hp : Pr p := hp
  have h2 := Pr_two hp
  have h7 := Pr_seven hp
  have hk : κ (nD (CZ n k % p)) := hk
  refine run_if (et_w (ew_or (et_cmp (evp_var 1 rfl) evp_int opd_lt (nomark _)) fun _ => (ew_or1 (et_cmp (evp_var 1 rfl) (evp_var 0 rfl) opd_gt (nomark _))))) (fun hb => ?_) (fun hb => ?_)
  · rw [CZ_out (by simpa using hb), Nat.zero_mod] at hk
    exact run_retP (evp_nat 0) hk
  refine run_nil ?_
  obtain ⟨j, rfl⟩ : ∃ j : Nat, k = (j : Int) := ⟨k.toNat, by simp at hb; omega⟩
  have hj : j ≤ n := by simp at hb; omega
  rw [CZ_nat] at hk
  clear hb
  have hl := figs_len h2 60 n hn
  have hq := figs_lt_pow h2 n
  refine run_asgP 3 (evp_nat 1) ?_ sc.nd
  refine run_forP (ein_rng (evp_bi (evap_cons (evp_fn c_figures (hr.mono (by decide)) (evap_cons (evp_var 0 rfl) (evap_cons (evp_var 2 rfl) eva_nil)) ⟨(_, _), rfl, (by walk_at "sd"), rfl⟩) eva_nil) cdn_len bi.len PySem.boot_len) bi.range (by dsimp only; omega)) (pg_name (i := 4) sc.nd rfl (by walk_at "lo")) (fun i S => ∃ f d4, S = ⟨0, [some (.dat (nD n)), some (.dat (nD j)), some (.dat (nD p)), some (.dat (nD f)), d4]⟩ ∧ f < p ∧ f * C (n / p ^ i) (j / p ^ i) % p = C n j % p) ⟨1, none, rfl, by omega, by rw [Nat.pow_zero, Nat.div_one, Nat.div_one, Nat.one_mul]⟩ (fun i x S hx ⟨f, d4, eS, hf, he⟩ => ?_) (fun S ⟨f, d4, eS, hf, he⟩ => ?_)
  · subst eS
    obtain ⟨hi, rfl⟩ := rgN_get hx
    dsimp only at hi
    have hd := Nat.mod_lt (n / p ^ i) (by omega : p > 0)
    refine ⟨_, gs_name, ?_⟩
    refine run_asgP 3 ((evp_bin (evp_bin (evp_var 3 rfl) (evp_fn c_choose (hr.mono (by decide)) (evap_cons (evp_fn c_figure_at (hr.mono (by decide)) (evap_cons (evp_var 0 rfl) (evap_cons (evp_var 2 rfl) (evap_cons (evp_var 4 rfl) eva_nil))) ⟨(_, _, _), rfl, (by walk_at "sd"), rfl⟩) (evap_cons (evp_fn c_figure_at (hr.mono (by decide)) (evap_cons (evp_var 1 rfl) (evap_cons (evp_var 2 rfl) (evap_cons (evp_var 4 rfl) eva_nil))) ⟨(_, _, _), rfl, (by walk_at "sd"), rfl⟩) eva_nil)) ⟨(_, _), rfl, (by dsimp only; omega), rfl⟩) (opn_mul (by walk_at "sd"))) (evp_var 2 rfl) (opn_mod (by walk_at "sd"))).is (d' := nD (f * C (n / p ^ i % p) (j / p ^ i % p) % p)) (by dsimp only; rw [CZ_nat])) ?_ sc.nd
    exact run_nil ⟨_, _, rfl, Nat.mod_lt _ (by omega), by rw [lucas_step hp, he]⟩
  subst eS
  rw [rgN_length] at he
  dsimp only at he
  rw [Nat.div_eq_of_lt hq, Nat.div_eq_of_lt (Nat.lt_of_le_of_lt hj hq), C_zero, Nat.mul_one, Nat.mod_eq_of_lt hf] at he
  refine run_retP (evp_var 3 rfl) ?_
  rw [he]; exact hk

theorem ok_is_carry_paper (D : DefAt K mg "is_carry_paper" s_is_carry_paper ["many", "some", "prime", "thing"]) (bi : BI mg)  (c_are_places : Callee P w K mg base "are_places" 1 sp_are_places) (c_carry_places : Callee P w K mg base "carry_places" 1 sp_carry_places) : Callee P w K mg base "is_carry_paper" 2 sp_is_carry_paper := by
  have sc := sc_is_carry_paper
  refine callee_of D sc mono_E (len_E fun _ => rfl) (fun f cdv A outer s H E hr ds κ h => ?_)
  obtain ⟨⟨n, s, p, d⟩, rfl, ⟨hs, hn, ⟨h2, h7⟩, hg1, hg2⟩, hk⟩ := h
  have hs : s ≤ n := hs
  have hn : n < 2 ^ 100 := hn
  have h2 : 2 ≤ p := h2
  have h7 : p ≤ 7 := h7
  have hk : κ (.bool (paper (cyL p s (n - s)) d)) := hk
  have hg1 : (tyD d).isSome = true := hg1
  have hg2 : ∀ ds, d = .tuple ds → SeqAt.shaped d = true ∧ ds.length ≤ 100000 ∧ ∀ x ∈ ds, (tyD x).isSome = true := hg2
  obtain ⟨t, ht⟩ := Option.isSome_iff_exists.mp hg1
  by_cases hT : ∃ ds, d = .tuple ds
  · obtain ⟨ds, rfl⟩ := hT
    obtain ⟨k1, k2, k3⟩ := hg2 ds rfl
    refine run_retP (EvP.is (evp_and (evp_is "tuple" (evp_var 3 rfl) bi.isinstance bi.tuple (by decide +kernel)) fun _ => (evp_and (evp_cmp (evp_var 3 rfl) ((evp_fn c_carry_places (hr.mono (by decide)) (evap_cons (evp_var 1 rfl) (evap_cons (evp_bin (evp_var 0 rfl) (evp_var 1 rfl) (opn_sub hs)) (evap_cons (evp_var 2 rfl) eva_nil))) ⟨(s, n - s, p), rfl, ⟨by dsimp only; omega, by dsimp only; omega, h2, h7⟩, rfl⟩).is (d' := eT (cyL p s (n - s))) rfl) (opd_eqD hr.units k1 (shaped_TN _)) (nomark _)) fun _ => (evp_one (evp_fn c_are_places (hr.mono (by decide)) (evap_cons (evp_var 3 rfl) eva_nil) ⟨ds, rfl, ⟨k2, k3⟩, rfl⟩)))) (d' := .bool (paper (cyL p s (n - s)) (.tuple ds))) rfl) hk
  · have hp0 : paper (cyL p s (n - s)) d = false := by
      cases d with
      | tuple ds => exact absurd ⟨ds, rfl⟩ hT
      | _ => rfl
    rw [hp0] at hk
    have hti : tyIs t "tuple" = false := by
      cases d with
      | tuple ds => exact absurd ⟨ds, rfl⟩ hT
      | dict _ => cases ht
      | _ => cases ht; rfl
    refine run_retP (EvP.is (evp_and (q := false) (evp_is "tuple" (d := d) (evp_var 3 rfl) bi.isinstance bi.tuple (by decide +kernel) ht) fun z => by rw [hti] at z; cases z) (d' := .bool false) (by rw [hti]; rfl)) hk

theorem ok_are_places (D : DefAt K mg "are_places" s_are_places ["thing"]) (bi : BI mg)   : Callee P w K mg base "are_places" 1 sp_are_places := by
  have sc := sc_are_places
  refine callee_of D sc mono_E (len_E fun _ => rfl) (fun f cdv A outer s H E hr ds κ h => ?_)
  obtain ⟨ds, rfl, ⟨hl, hty⟩, hk⟩ := h
  have hl : ds.length ≤ 100000 := hl
  have hty : ∀ x ∈ ds, (tyD x).isSome = true := hty
  refine run_retP ((evp_bi (evap_cons (evp_new (evnp_mapB (own := [("one", 1)]) (f := plainI) ds id (fun y => [(1, y)]) sc.nd (by rw [List.map_id]; exact eip_tup (evp_var 0 rfl)) (blkOk_by (N := n_are_places) (sc := defScope s_are_places) (by decide +kernel)) (fun _ _ _ _ _ => pg_name (i := 1) sc.nd rfl (by walk_at "lo")) (by rw [sizeLine_eq]; omega) (fun x hx => ⟨own_ok [1] (by decide) rfl, gs_name⟩) (fun x hx _ _ _ _ _ => by
    obtain ⟨t, ht⟩ := Option.isSome_iff_exists.mp (hty x hx)
    exact (evp_and (evp_is "int" (d := x) (evp_var 1 rfl) bi.isinstance bi.int (by decide +kernel) ht) fun _ => (evp_one (evp_not (evp_is "bool" (d := x) (evp_var 1 rfl) bi.isinstance bi.bool (by decide +kernel) ht)))).is (by rw [plainI_ty ht])))) eva_nil) cd_all bi.all (by decide +kernel)).is (d' := .bool (ds.all plainI)) (by rw [List.all_map]; rfl)) hk

theorem ok_count (D : DefAt K mg "count" s_count ["many", "prime"]) (bi : BI mg)  (c_figures : Callee P w K mg base "figures" 1 sp_figures) : Callee P w K mg base "count" 2 sp_count := by
  have sc := sc_count
  refine callee_of D sc mono_E (len_E fun _ => rfl) (fun f cdv A outer s H E hr ds κ h => ?_)
  obtain ⟨⟨n, p⟩, rfl, ⟨hn, h2, h7⟩, hk⟩ := h
  have h2 : 2 ≤ p := h2
  have h7 : p ≤ 7 := h7
  have hn : n < 2 ^ 200 := hn
  refine run_asgP 2 (evp_nat 1) ?_ sc.nd
  refine run_forP (eip_tup (evp_fn c_figures (hr.mono (by decide)) (evap_cons (evp_var 0 rfl) (evap_cons (evp_var 1 rfl) eva_nil)) ⟨(n, p), rfl, ⟨hn, h2, h7⟩, rfl⟩)) (pg_name (i := 3) sc.nd rfl (by walk_at "lo")) (fun i S => ∃ d3, S = ⟨0, [some (.dat (nD n)), some (.dat (nD p)), some (.dat (nD (cntL ((figs p n).take i)))), d3]⟩) ⟨none, rfl⟩ (fun i x S hx ⟨d3, eS⟩ => ?_) (fun S ⟨d3, eS⟩ => ?_)
  · subst eS
    obtain ⟨y, hy, rfl⟩ := mapN_get hx
    have hyp := figs_lt h2 n n (Nat.le_refl _) y (List.mem_of_getElem? hy)
    refine ⟨_, gs_name, ?_⟩
    refine run_asgP 2 ((evp_bin (evp_var 2 rfl) (evp_bin (evp_var 3 rfl) (evp_nat 1) opn_add) (opn_mul (.inr (.inl (by omega))))).is (d' := nD (cntL ((figs p n).take (i + 1)))) (by rw [take_get hy, cntL_append]; show _ = nD (_ * ((y + 1) * 1)); rw [Nat.mul_one])) ?_ sc.nd
    exact run_nil ⟨_, rfl⟩
  subst eS
  rw [List.length_map, List.take_length]
  exact run_retP (evp_var 2 rfl) hk

theorem ok_place_at (D : DefAt K mg "place_at" s_place_at ["many", "prime", "number"]) (bi : BI mg)  (c_figures : Callee P w K mg base "figures" 1 sp_figures) (c_number_of : Callee P w K mg base "number_of" 1 sp_number_of) (c_count : Callee P w K mg base "count" 2 sp_count) : Callee P w K mg base "place_at" 3 sp_place_at := by
  have sc := sc_place_at
  refine callee_of D sc mono_E (len_E fun _ => rfl) (fun f cdv A outer s H E hr ds κ h => ?_)
  obtain ⟨⟨n, p, i⟩, rfl, ⟨hn, h2, h7, hi⟩, hk⟩ := h
  have hn : n < 2 ^ 200 := hn
  have h2 : 2 ≤ p := h2
  have h7 : p ≤ 7 := h7
  have hi : i < PL.cnt p n := hi
  have hk : κ (nD (numOf p (dgs (figs p n) i))) := hk
  have fl := figs_len h2 200 n hn
  refine run_no0 (et_not (et_chn (evp_nat 0) (evp_var 2 rfl) (evp_fn c_count (hr.mono (by decide)) (evap_cons (evp_var 0 rfl) (evap_cons (evp_var 1 rfl) eva_nil)) ⟨(n, p), rfl, ⟨hn, h2, h7⟩, rfl⟩) opn_le opn_lt)) ?_ (by simp; exact hi)
  refine run_asgP 3 (evp_tup eva_nil) ?_ sc.nd
  refine run_forP (eip_tup (evp_fn c_figures (hr.mono (by decide)) (evap_cons (evp_var 0 rfl) (evap_cons (evp_var 1 rfl) eva_nil)) ⟨(n, p), rfl, ⟨hn, h2, h7⟩, rfl⟩)) (pg_name (i := 4) sc.nd rfl (by walk_at "lo")) (fun k S => ∃ m acc d4, S = ⟨0, [some (.dat (nD n)), some (.dat (nD p)), some (.dat (nD m)), some (.dat (eT acc)), d4]⟩ ∧ acc.length = k ∧ acc ++ dgs ((figs p n).drop k) m = dgs (figs p n) i) ⟨i, [], none, rfl, rfl, rfl⟩ (fun k x S hx ⟨m, acc, d4, eS, hl, he⟩ => ?_) (fun S ⟨m, acc, d4, eS, hl, he⟩ => ?_)
  · subst eS
    obtain ⟨a, ha, rfl⟩ := mapN_get hx
    have hkl : k < (figs p n).length := (List.getElem?_eq_some_iff.mp ha).1
    have hap := figs_lt h2 n n (Nat.le_refl _) a (List.mem_of_getElem? ha)
    refine ⟨_, gs_name, ?_⟩
    refine run_asgP 3 (evp_bin (evp_var 3 rfl) (evp_tup (evap_cons (evp_bin (evp_var 2 rfl) (evp_bin (evp_var 4 rfl) (evp_nat 1) opn_add) (opn_mod (by omega))) eva_nil)) (opn_snoc (by rw [sizeLine_eq]; omega))) ?_ sc.nd
    refine run_asgP 2 (evp_bin (evp_var 2 rfl) (evp_bin (evp_var 4 rfl) (evp_nat 1) opn_add) (opn_fdv ⟨by omega, .inl (by omega)⟩)) ?_ sc.nd
    refine run_nil ⟨m / (a + 1), acc ++ [m % (a + 1)], _, rfl, by rw [List.length_append, hl]; rfl, ?_⟩
    have hd : (figs p n).drop k = a :: (figs p n).drop (k + 1) := by
      rw [List.drop_eq_getElem_cons hkl]
      congr 1
      exact Option.some.inj ((List.getElem?_eq_getElem hkl).symm.trans ha)
    rw [← he, hd, List.append_assoc]; rfl
  subst eS
  rw [List.length_map] at he
  rw [List.drop_length] at he
  have he : acc ++ [] = dgs (figs p n) i := he
  rw [List.append_nil] at he
  subst he
  exact run_retP (evp_fn c_number_of (hr.mono (by decide)) (evap_cons (evp_var 3 rfl) (evap_cons (evp_var 1 rfl) eva_nil)) ⟨(_, p), rfl, (by dsimp only; omega), rfl⟩) hk

theorem okx_place_at (D : DefAt K mg "place_at" s_place_at ["many", "prime", "number"]) (bi : BI mg)  {a_NoPlace : Addr} (ec_NoPlace : ExC K mg "NoPlace" a_NoPlace) (c_figures : Callee P w K mg base "figures" 1 sp_figures) (c_number_of : Callee P w K mg base "number_of" 1 sp_number_of) (c_count : Callee P w K mg base "count" 2 sp_count) : CalleeX P w K mg base "place_at" 3 (fun ds => ∃ (n p : Nat) (z : Int), ds = [nD n, nD p, .int z] ∧ n < 2 ^ 200 ∧ 2 ≤ p ∧ p ≤ 7 ∧ ¬ (0 ≤ z ∧ z < (PL.cnt p n : Int))) (.ref a_NoPlace) := by
  have sc := sc_place_at
  refine calleeX_of D sc (fun ds h => by obtain ⟨_, _, _, rfl, _⟩ := h; rfl) (fun f cdv A outer s H E hr ds h => ?_)
  obtain ⟨n, p, z, rfl, hn, h2, h7, hz⟩ := h
  exact runx_if (et_not (et_chn (evp_nat 0) (evp_var 2 rfl) (evp_fn c_count (hr.mono (by decide)) (evap_cons (evp_var 0 rfl) (evap_cons (evp_var 1 rfl) eva_nil)) ⟨(n, p), rfl, ⟨hn, h2, h7⟩, rfl⟩) opd_le opd_lt)) (fun _ => runx_raise ec_NoPlace trivial) (fun hb => absurd hb (by simp; intro a; have := not_and.mp hz a; omega))

theorem ok_first_with (D : DefAt K mg "first_with" s_first_with ["prime", "told", "many"]) (bi : BI mg)  (c_rest : Callee P w K mg base "rest" 3 sp_rest) : Callee P w K mg base "first_with" 4 sp_first_with := by
  have sc := sc_first_with
  refine callee_of D sc mono_E (len_E fun _ => rfl) (fun f cdv A outer s H E hr ds κ h => ?_)
  obtain ⟨⟨p, t, m⟩, rfl, ⟨hm, hp, ht⟩, hk⟩ := h
  have hm : m < 2 ^ 50 := hm
  have hp : Pr p := hp
  have ht : t < p := ht
  have h2 := Pr_two hp
  have h7 := Pr_seven hp
  have hk : κ (pairD (fw p t m)) := hk
  obtain ⟨l, l1, l2, l3⟩ := ex_row hp ht m
  refine run_no0 (et_not (et_chn (evp_nat 0) (evp_var 1 rfl) (evp_var 0 rfl) opn_le opn_lt)) ?_ (by simp; exact ht)
  refine run_while (fun f S => ∃ k d3, f + k = p + 1 ∧ S = ⟨0, [some (.dat (nD p)), some (.dat (nD t)), some (.dat (nD (m + k))), d3]⟩ ∧ fwS p t f (m + k) = fw p t m ∧ ∀ j, m ≤ j → j < m + k → rowF p t j = none) (p + 1) ⟨0, none, by omega, rfl, rfl, fun j a b => by omega⟩ ?_
  rintro f S ⟨k, d3, hf, rfl, he, hall⟩
  refine ⟨_, (et_val evp_bl), fun hb => ?_, fun hb => by cases hb⟩
  obtain ⟨f, rfl⟩ : ∃ f', f = f' + 1 := by
    cases f with
    | zero => exact absurd (hall l l1 (by omega)) l3
    | succ f => exact ⟨f, rfl⟩
  refine run_forP (ein_rng (evp_bin (evp_var 2 rfl) (evp_nat 1) opn_add) bi.range (by omega)) (pg_name (i := 3) sc.nd rfl (by walk_at "lo")) (fun i S => ∃ d3, S = ⟨0, [some (.dat (nD p)), some (.dat (nD t)), some (.dat (nD (m + k))), d3]⟩ ∧ ∀ j, j < i → C (m + k) j % p ≠ t) ⟨_, rfl, fun j hj => by omega⟩ (fun i x S hx ⟨d3, eS, hno⟩ => ?_) (fun S ⟨d3, eS, hno⟩ => ?_)
  · subst eS
    obtain ⟨hi, rfl⟩ := rgN_get hx
    refine ⟨_, gs_name, ?_⟩
    refine run_if (et_cmp ((evp_fn c_rest (hr.mono (by decide)) (evap_cons (evp_var 2 rfl) (evap_cons (evp_var 3 rfl) (evap_cons (evp_var 0 rfl) eva_nil))) ⟨(m + k, (i : Int), p), rfl, ⟨by dsimp only; omega, hp⟩, rfl⟩).is (d' := nD (C (m + k) i % p)) (by dsimp only; rw [CZ_nat])) (evp_var 1 rfl) opn_eq (nomark _)) (fun hb => ?_) (fun hb => ?_)
    · have hb : C (m + k) i % p = t := of_decide_eq_true hb
      rw [fwS_some (rowF_some.mpr ⟨by omega, hb, hno⟩)] at he
      rw [← he] at hk
      exact run_retP (evp_tup (evap_cons (evp_var 2 rfl) (evap_cons (evp_var 3 rfl) eva_nil))) hk
    · have hb : ¬ C (m + k) i % p = t := of_decide_eq_false hb
      exact run_nil (run_nil ⟨_, rfl, fun j hj => by
        by_cases g : j = i
        · subst g; exact hb
        · exact hno j (by omega)⟩)
  subst eS
  rw [rgN_length] at hno
  have hn : rowF p t (m + k) = none := rowF_none.mpr fun j hj => hno j (by omega)
  rw [fwS_none hn] at he
  refine run_asgP 2 (evp_bin (evp_var 2 rfl) (evp_nat 1) opn_add) ?_ sc.nd
  exact run_nil ⟨f, by omega, k + 1, _, by omega, rfl, he, fun j a b => by
    by_cases g : j = m + k
    · subst g; exact hn
    · exact hall j a (by omega)⟩

theorem okx_first_with (D : DefAt K mg "first_with" s_first_with ["prime", "told", "many"]) (bi : BI mg)  {a_NoRest : Addr} (ec_NoRest : ExC K mg "NoRest" a_NoRest) (c_rest : Callee P w K mg base "rest" 3 sp_rest) : CalleeX P w K mg base "first_with" 4 (fun ds => ∃ (p m : Nat) (z : Int), ds = [nD p, .int z, nD m] ∧ ¬ (0 ≤ z ∧ z < (p : Int))) (.ref a_NoRest) := by
  have sc := sc_first_with
  refine calleeX_of D sc (fun ds h => by obtain ⟨_, _, _, rfl, _⟩ := h; rfl) (fun f cdv A outer s H E hr ds h => ?_)
  obtain ⟨p, m, z, rfl, hz⟩ := h
  exact runx_if (et_not (et_chn (evp_nat 0) (evp_var 1 rfl) (evp_var 0 rfl) opd_le opd_lt)) (fun _ => runx_raise ec_NoRest trivial) (fun hb => absurd hb (by simp; intro a; have := not_and.mp hz a; omega))

theorem ok_read (D : DefAt K mg "read" s_read ["text"]) (bi : BI mg)  (gl_texts : GT K mg) (c_number_of : Callee P w K mg base "number_of" 1 sp_number_of) : Callee P w K mg base "read" 2 sp_read := by
  have sc := sc_read
  refine callee_of D sc mono_E (len_E fun _ => rfl) (fun f cdv A outer s H E hr ds κ h => ?_)
  obtain ⟨⟨n, p⟩, rfl, ⟨hn, hp⟩, hk⟩ := h
  have hn : n < 2 ^ 200 := hn
  have hp : Pr p := hp
  have h2 := Pr_two hp
  have h7 := Pr_seven hp
  have hk : κ (.tuple [nD n, nD p]) := hk
  have hl := txN_len h2 hn (by decide)
  have ho := okW_txN h2 n
  have hsp := spl_say (ok_no32 ho) (a := 48 + p) (by omega)
  have hnm := nm_txN h2 n
  have hsl : (PL.say p n).length = (txN p n).length + 5 := by unfold PL.say; simp
  generalize hw : txN p n = w at *
  have hsay : PL.say p n = w ++ BYL ++ [48 + p] := by unfold PL.say; rw [hw]
  refine run_asgP 1 ((evp_splitS (evp_var 0 rfl) (evp_tx BYL) (by simp) (by rw [hsl, sizeLine_eq]; omega) (by decide)).is (d' := .list ([w, [48 + p]].map tD)) (by show PyData.list ((TL.spl BYL 0 [] (PL.say p n)).map tD) = _; rw [hsay, hsp])) ?_ sc.nd
  refine run_no0 (et_w (ew_or (p := false) ((et_cmp ((evp_bi (evap_cons (evp_var 1 rfl) eva_nil) cd_lenL bi.len PySem.boot_len).is (d' := nD 2) rfl) (evp_nat 2) opn_ne (nomark _)).is rfl) fun _ => (ew_or (p := false) ((et_cmp (evp_ixL (d := tD [48 + p]) (evp_var 1 rfl) (evp_nat 1) rfl) (evp_primes gl_texts) opn_notInTS rfl).is (by rw [decide_eq_true (pr_prl hp)]; rfl)) fun _ => (ew_or1 (p := false) ((et_cmp (evp_ixL (d := tD w) (evp_var 1 rfl) (evp_nat 0) rfl) (evp_tx []) opn_eqS (nomark _)).is (decide_eq_false ho.ne)))))) ?_
  refine run_asgP 2 ((evp_ty (evap_cons (evp_ixL (d := tD [48 + p]) (evp_var 1 rfl) (evp_nat 1) rfl) eva_nil) (cd_intN (by omega) (by omega)) bi.int (by decide +kernel)).is (d' := nD p) (by rw [Nat.add_sub_cancel_left])) ?_ sc.nd
  have hall : ((w.map fun c => decide (c ∈ SGN.take p)).all id) = true := by
    rw [List.all_map, List.all_eq_true]
    exact fun c hc => decide_eq_true ((sgn_take hp).mpr (ho.sg c hc))
  have hpos : 0 < w.length := List.length_pos_iff.mpr ho.ne
  obtain ⟨c0, hc0⟩ : ∃ c0, w[0]? = some c0 := ⟨w[0], List.getElem?_eq_getElem hpos⟩
  have hcd : w.getD 0 0 = c0 := by rw [List.getD_eq_getElem?_getD, hc0]; rfl
  refine run_no0 (et_w (ew_or (p := false) ((et_not (et_val ((evp_bi (evap_cons (evp_new (evnp_mapB (own := [("sign", 3)]) (f := fun c => decide (c ∈ SGN.take p)) w (fun c => tD [c]) (fun y => [(3, y)]) sc.nd (eip_strL (evp_ixL (d := tD w) (evp_var 1 rfl) (evp_nat 0) rfl)) (blkOk_by (N := n_read) (sc := defScope s_read) (by decide +kernel)) (fun _ _ _ _ _ => pg_name (i := 3) sc.nd rfl (by walk_at "lo")) (by rw [sizeLine_eq]; omega) (fun x hx => ⟨own_ok [3] (by decide) rfl, gs_name⟩) (fun x hx _ _ _ _ _ => (evp_cmp (evp_var 3 rfl) (evp_slS1 (evp_signs gl_texts) (by rw [sizeLine_eq]; decide) (evp_var 2 rfl)) opn_inS rfl)))) eva_nil) cd_all bi.all (by decide +kernel)).is (d' := .bool true) (by rw [hall])))).is rfl) fun _ => (ew_or1 (p := false) ((et_w (ew_and (et_cmp ((evp_bi (evap_cons (evp_ixL (d := tD w) (evp_var 1 rfl) (evp_nat 0) rfl) eva_nil) (cd_lenS (by rw [tx_len, sizeLine_eq]; omega)) bi.len PySem.boot_len).is (d' := nD w.length) (by rw [tx_len])) (evp_nat 1) opn_gt (nomark _)) fun _ => (ew_and1 (et_cmp (evp_ixS (cc := c0) (evp_ixL (d := tD w) (evp_var 1 rfl) (evp_nat 0) rfl) (evp_nat 0) (by rw [tx_len, sizeLine_eq]; omega) (atI_of hc0)) (evp_tx [48]) (opn_eqS (i := [c0])) (nomark _))))).is (by
    by_cases g : 1 < w.length
    · have := ho.hd g
      rw [hcd] at this
      simp [this]
    · simp [g]))))) ?_
  refine run_retP (evp_tup (ds := [nD n, nD p]) (evap_cons (EvP.is (evp_fn c_number_of (hr.mono (by decide)) (evap_cons ((evp_ty (evap_cons (evp_new (evnp_mapN (own := [("sign", 3)]) (f := fun c => c - 48) w.reverse (fun c => tD [c]) (fun y => [(3, y)]) sc.nd (eip_strL (evp_revS (evp_ixL (d := tD w) (evp_var 1 rfl) (evp_nat 0) rfl) (by rw [sizeLine_eq]; omega))) (blkOk_by (N := n_read) (sc := defScope s_read) (by decide +kernel)) (fun _ _ _ _ _ => pg_name (i := 3) sc.nd rfl (by walk_at "lo")) (by rw [List.length_reverse, sizeLine_eq]; omega) (fun x hx => ⟨own_ok [3] (by decide) rfl, gs_name⟩) (fun x hx _ _ _ _ _ => (evp_ty (evap_cons (evp_var 3 rfl) eva_nil) (cd_intN (ho.sg x (List.mem_reverse.mp hx)).1 (by have := (ho.sg x (List.mem_reverse.mp hx)).2; omega)) bi.int (by decide +kernel))))) eva_nil) cd_tupL bi.tuple (by decide +kernel)).is (d' := eT (w.reverse.map (· - 48))) rfl) (evap_cons (evp_var 2 rfl) eva_nil)) ⟨(w.reverse.map (· - 48), p), rfl, h7, rfl⟩) (d' := nD n) (by dsimp only; unfold nmW at hnm; rw [hnm])) (evap_cons (evp_var 2 rfl) eva_nil))) hk

theorem okx_read (D : DefAt K mg "read" s_read ["text"]) (bi : BI mg)  (gl_texts : GT K mg) {a_NoText : Addr} (ec_NoText : ExC K mg "NoText" a_NoText) (c_number_of : Callee P w K mg base "number_of" 1 sp_number_of) : CalleeX P w K mg base "read" 2 (fun ds => ∃ l : List Nat, ds = [tD l] ∧ l.length ≤ 1000 ∧ ¬ isSay l) (.ref a_NoText) := by
  have sc := sc_read
  refine calleeX_of D sc (fun ds h => by obtain ⟨_, rfl, _⟩ := h; rfl) (fun f cdv A outer s H E hr ds h => ?_)
  obtain ⟨l, rfl, hl, hns⟩ := h
  refine runx_asgP 1 (evp_splitS (evp_var 0 rfl) (evp_tx BYL) (by simp) (by rw [sizeLine_eq]; omega) (by decide)) ?_ sc.nd
  generalize hws : TL.spl BYL 0 [] l = ws
  by_cases g2 : ws.length = 2
  · obtain ⟨w, v, rfl⟩ : ∃ w v, ws = [w, v] := by
      match ws, g2 with
      | [w, v], _ => exact ⟨w, v, rfl⟩
    have el := spl_two hws
    have hwl : w.length ≤ 1000 := by rw [el] at hl; simp at hl; omega
    by_cases gv : v ∈ PRL
    · by_cases gw : w = []
      · exact runx_if (b := true) (et_w (ew_or (p := false) (q := true) ((et_cmp ((evp_bi (evap_cons (evp_var 1 rfl) eva_nil) cd_lenL bi.len PySem.boot_len).is (d' := nD 2) rfl) (evp_nat 2) opn_ne (nomark _)).is rfl) fun _ => (ew_or (p := false) (q := true) ((et_cmp (evp_ixL (d := tD v) (evp_var 1 rfl) (evp_nat 1) rfl) (evp_primes gl_texts) opn_notInTS rfl).is (by rw [decide_eq_true gv]; rfl)) fun _ => (ew_or1 (p := true) ((et_cmp (evp_ixL (d := tD w) (evp_var 1 rfl) (evp_nat 0) rfl) (evp_tx []) opn_eqS (nomark _)).is (decide_eq_true gw)))))) (fun _ => runx_raise ec_NoText trivial) (fun hb => by cases hb)
      · obtain ⟨p, hp, rfl⟩ := prl_pr gv
        have h2 := Pr_two hp
        have h7 := Pr_seven hp
        refine runx_no (et_w (ew_or (p := false) (q := false) ((et_cmp ((evp_bi (evap_cons (evp_var 1 rfl) eva_nil) cd_lenL bi.len PySem.boot_len).is (d' := nD 2) rfl) (evp_nat 2) opn_ne (nomark _)).is rfl) fun _ => (ew_or (p := false) (q := false) ((et_cmp (evp_ixL (d := tD [48 + p]) (evp_var 1 rfl) (evp_nat 1) rfl) (evp_primes gl_texts) opn_notInTS rfl).is (by rw [decide_eq_true gv]; rfl)) fun _ => (ew_or1 (p := false) ((et_cmp (evp_ixL (d := tD w) (evp_var 1 rfl) (evp_nat 0) rfl) (evp_tx []) opn_eqS (nomark _)).is (decide_eq_false gw)))))) ?_
        refine runx_asgP 2 ((evp_ty (evap_cons (evp_ixL (d := tD [48 + p]) (evp_var 1 rfl) (evp_nat 1) rfl) eva_nil) (cd_intN (by omega) (by omega)) bi.int (by decide +kernel)).is (d' := nD p) (by rw [Nat.add_sub_cancel_left])) ?_ sc.nd
        by_cases ga : ((w.map fun c => decide (c ∈ SGN.take p)).all id) = true
        · have hpos : 0 < w.length := List.length_pos_iff.mpr gw
          obtain ⟨c0, hc0⟩ : ∃ c0, w[0]? = some c0 := ⟨w[0], List.getElem?_eq_getElem hpos⟩
          have hcd : w.getD 0 0 = c0 := by rw [List.getD_eq_getElem?_getD, hc0]; rfl
          by_cases gh : 1 < w.length ∧ c0 = 48
          · exact runx_if (b := true) (et_w (ew_or (p := false) (q := true) ((et_not (et_val ((evp_bi (evap_cons (evp_new (evnp_mapB (own := [("sign", 3)]) (f := fun c => decide (c ∈ SGN.take p)) w (fun c => tD [c]) (fun y => [(3, y)]) sc.nd (eip_strL (evp_ixL (d := tD w) (evp_var 1 rfl) (evp_nat 0) rfl)) (blkOk_by (N := n_read) (sc := defScope s_read) (by decide +kernel)) (fun _ _ _ _ _ => pg_name (i := 3) sc.nd rfl (by walk_at "lo")) (by rw [sizeLine_eq]; omega) (fun x hx => ⟨own_ok [3] (by decide) rfl, gs_name⟩) (fun x hx _ _ _ _ _ => (evp_cmp (evp_var 3 rfl) (evp_slS1 (evp_signs gl_texts) (by rw [sizeLine_eq]; decide) (evp_var 2 rfl)) opn_inS rfl)))) eva_nil) cd_all bi.all (by decide +kernel)).is (d' := .bool true) (by rw [ga])))).is rfl) fun _ => (ew_or1 (p := true) ((et_w (ew_and (et_cmp ((evp_bi (evap_cons (evp_ixL (d := tD w) (evp_var 1 rfl) (evp_nat 0) rfl) eva_nil) (cd_lenS (by rw [tx_len, sizeLine_eq]; omega)) bi.len PySem.boot_len).is (d' := nD w.length) (by rw [tx_len])) (evp_nat 1) opn_gt (nomark _)) fun _ => (ew_and1 (et_cmp (evp_ixS (cc := c0) (evp_ixL (d := tD w) (evp_var 1 rfl) (evp_nat 0) rfl) (evp_nat 0) (by rw [tx_len, sizeLine_eq]; omega) (atI_of hc0)) (evp_tx [48]) (opn_eqS (i := [c0])) (nomark _))))).is (by simp [gh.1, gh.2]))))) (fun _ => runx_raise ec_NoText trivial) (fun hb => by cases hb)
          · refine absurd (isSay_iff.mpr ⟨p, w, hp, ⟨gw, fun c hc => ?_, fun g1 g3 => gh ⟨g1, by rw [← hcd]; exact g3⟩⟩, el⟩) hns
            rw [List.all_map, List.all_eq_true] at ga
            exact (sgn_take hp).mp (of_decide_eq_true (ga c hc))
        · exact runx_if (b := true) (et_w (ew_or (p := true) (q := false) ((et_not (et_val ((evp_bi (evap_cons (evp_new (evnp_mapB (own := [("sign", 3)]) (f := fun c => decide (c ∈ SGN.take p)) w (fun c => tD [c]) (fun y => [(3, y)]) sc.nd (eip_strL (evp_ixL (d := tD w) (evp_var 1 rfl) (evp_nat 0) rfl)) (blkOk_by (N := n_read) (sc := defScope s_read) (by decide +kernel)) (fun _ _ _ _ _ => pg_name (i := 3) sc.nd rfl (by walk_at "lo")) (by rw [sizeLine_eq]; omega) (fun x hx => ⟨own_ok [3] (by decide) rfl, gs_name⟩) (fun x hx _ _ _ _ _ => (evp_cmp (evp_var 3 rfl) (evp_slS1 (evp_signs gl_texts) (by rw [sizeLine_eq]; decide) (evp_var 2 rfl)) opn_inS rfl)))) eva_nil) cd_all bi.all (by decide +kernel)).is (d' := .bool false) (by rw [Bool.eq_false_iff.mpr ga])))).is rfl) fun z => by cases z)) (fun _ => runx_raise ec_NoText trivial) (fun hb => by cases hb)
    · exact runx_if (b := true) (et_w (ew_or (p := false) (q := true) ((et_cmp ((evp_bi (evap_cons (evp_var 1 rfl) eva_nil) cd_lenL bi.len PySem.boot_len).is (d' := nD 2) rfl) (evp_nat 2) opn_ne (nomark _)).is rfl) fun _ => (ew_or (p := true) (q := false) ((et_cmp (evp_ixL (d := tD v) (evp_var 1 rfl) (evp_nat 1) rfl) (evp_primes gl_texts) opn_notInTS rfl).is (by rw [decide_eq_false gv]; rfl)) fun z => by cases z))) (fun _ => runx_raise ec_NoText trivial) (fun hb => by cases hb)
  · exact runx_if (b := true) (et_w (ew_or (p := true) (q := false) ((et_cmp ((evp_bi (evap_cons (evp_var 1 rfl) eva_nil) cd_lenL bi.len PySem.boot_len).is (d' := nD ws.length) (by rw [List.length_map])) (evp_nat 2) opn_ne (nomark _)).is (by simp [g2])) fun z => by cases z)) (fun _ => runx_raise ec_NoText trivial) (fun hb => by cases hb)

theorem ok__law_draw (D : DefAt K mg "_law_draw" s__law_draw ["_law_script", "_law_town", "_law_many"]) (bi : BI mg)   : CalleeT P w K mg base "_law_draw" 1 spDraw := by
  have sc := sc__law_draw
  refine calleeT_of D sc mono_draw (fun ds b κ h => by obtain ⟨ns, h⟩ := h; obtain ⟨_, _, rfl, _⟩ := h; rfl) (fun f cdv A outer s H E hr ds b κ t h => ?_)
  obtain ⟨ns, m, b', rfl, h0, rfl, hk⟩ := h
  refine run_town 1 rfl rfl rfl evp_int ?_
  refine run_asg 3 (ev_lenTown 1 rfl (fun k => ?_) bi.len PySem.boot_len) sc.nd
  refine run_asgP 4 evp_int ?_ sc.nd
  refine run_ifM (fun S => ∃ cell : Int, S = ⟨b', [some (.scr ns), some .town, some (.dat (nD m)), some (.dat (nD k)), some (.dat (.int cell)), none, none]⟩) (et_scr 0 rfl) (fun hb => ?_) (fun hb => run_nil ⟨0, rfl⟩) ?_
  · have hl : 0 < ns.length := by
      cases ns with
      | nil => cases hb
      | cons a r => exact Nat.succ_pos _
    refine run_asgP 4 (evp_ixScr 0 rfl (evp_bin (evp_var 3 rfl) (evp_lenScr 0 rfl bi.len PySem.boot_len) (opn_mod hl)) (Nat.mod_lt _ hl)) ?_ sc.nd
    exact run_nil ⟨_, rfl⟩
  · rintro S ⟨cell, rfl⟩
    have e1 : 0 ≤ (cell + (104729 * k : Nat)) % 4294967291 := by omega
    have e2 : ((cell + (104729 * k : Nat)) % 4294967291).toNat < 4294967291 := by omega
    refine run_asgP 5 ((evp_bin (evp_bin (evp_var 4 rfl) (evp_bin (evp_nat 104729) (evp_var 3 rfl) (opn_mul (by walk_at "sd"))) opd_add) evp_int (opd_mod (by decide))).is (int_nD e1)) ?_ sc.nd
    generalize ((cell + (104729 * k : Nat)) % 4294967291).toNat = x at e2
    refine run_asgP 5 (evp_bin (evp_bin (evp_bin (evp_bin (evp_var 5 rfl) (evp_var 5 rfl) (opn_mul (by walk_at "sd"))) (evp_nat 4294967279) (opn_mod (by walk_at "sd"))) (evp_nat 48271) (opn_mul (by walk_at "sd"))) (evp_nat 4294967291) (opn_mod (by walk_at "sd"))) ?_ sc.nd
    have e3 : x * x % 4294967279 * 48271 % 4294967291 < 4294967291 := Nat.mod_lt _ (by decide)
    generalize x * x % 4294967279 * 48271 % 4294967291 = y at e3
    refine run_asgP 6 (evp_bin (evp_bin (evp_bin (evp_bin (evp_var 5 rfl) (evp_var 5 rfl) (opn_mul (by walk_at "sd"))) (evp_nat 4294967279) (opn_mod (by walk_at "sd"))) (evp_nat 69621) (opn_mul (by walk_at "sd"))) (evp_nat 4294967291) (opn_mod (by walk_at "sd"))) ?_ sc.nd
    refine run_retP (evp_bin (evp_bin (evp_bin (evp_bin (evp_var 5 rfl) (evp_nat 64) (opn_fdv (by walk_at "sd"))) (evp_nat 67108864) (opn_mul (by walk_at "sd"))) (evp_bin (evp_var 6 rfl) (evp_nat 64) (opn_fdv (by walk_at "sd"))) opn_add) (evp_var 2 rfl) (opn_mod (by walk_at "sd"))) ?_
    exact hk _ (Nat.mod_lt _ h0)

theorem ok__law_pick (D : DefAt K mg "_law_pick" s__law_pick ["_law_script", "_law_town", "_law_some"]) (bi : BI mg)  (c__law_draw : CalleeT P w K mg base "_law_draw" 1 spDraw) : CalleeT P w K mg base "_law_pick" 2 spPick := by
  have sc := sc__law_pick
  refine calleeT_of D sc mono_pick (fun ds b κ h => by obtain ⟨ns, h⟩ := h; obtain ⟨_, _, rfl, _⟩ := h; rfl) (fun f cdv A outer s H E hr ds b κ t h => ?_)
  obtain ⟨ns, ds, b', rfl, h0, rfl, hk⟩ := h
  refine run_ret (ev_ix (Ev.k (evp_var 2 rfl) (ev_draw c__law_draw (hr.mono (by decide)) 0 1 rfl rfl (evp_bi (evap_cons (evp_var 2 rfl) eva_nil) cd_lenL bi.len PySem.boot_len) h0 rfl fun r hr0 => ?_)))
  exact ⟨ds[r], ⟨(r : Int), rfl, .inl ⟨ds, .inl rfl, atI_nat (List.getElem?_eq_getElem hr0)⟩⟩, hk _ (List.getElem_mem hr0)⟩

theorem ok__law_prime (D : DefAt K mg "_law_prime" s__law_prime ["_law_script", "_law_town"]) (bi : BI mg)  (c__law_pick : CalleeT P w K mg base "_law_pick" 2 spPick) : CalleeT P w K mg base "_law_prime" 3 spPrime := by
  have sc := sc__law_prime
  refine calleeT_of D sc mono_prime (fun ds b κ h => by obtain ⟨ns, h⟩ := h; obtain ⟨_, rfl, _⟩ := h; rfl) (fun f cdv A outer s H E hr ds b κ t h => ?_)
  obtain ⟨ns, b', rfl, rfl, hk⟩ := h
  refine run_ret (ev_pick c__law_pick (hr.mono (by decide)) 0 1 rfl rfl (evp_new (evnp_lst (evap_cons (evp_nat 2) (evap_cons (evp_nat 3) (evap_cons (evp_nat 5) (evap_cons (evp_nat 7) eva_nil)))))) (by decide) rfl fun d hd => ?_)
  simp only [List.mem_cons, List.mem_nil_iff, or_false] at hd
  rcases hd with rfl | rfl | rfl | rfl
  · exact hk 2 (by omega)
  · exact hk 3 (by omega)
  · exact hk 5 (by omega)
  · exact hk 7 (by omega)

theorem ok__law_number (D : DefAt K mg "_law_number" s__law_number ["_law_script", "_law_town", "_law_prime_here"]) (bi : BI mg)  (c__law_pick : CalleeT P w K mg base "_law_pick" 2 spPick) (c__law_draw : CalleeT P w K mg base "_law_draw" 1 spDraw) (c__law_raised : Callee P w K mg base "_law_raised" 1 (spE e2 (fun a => a.1 < 2 ^ 64 ∧ a.2 < 2 ^ 60) fun a => nD (a.1 ^ a.2))) : CalleeT P w K mg base "_law_number" 3 spNumB := by
  have sc := sc__law_number
  refine calleeT_of D sc mono_numB (fun ds b κ h => by obtain ⟨ns, h⟩ := h; obtain ⟨_, _, rfl, _⟩ := h; rfl) (fun f cdv A outer s H E hr ds b κ t h => ?_)
  obtain ⟨ns, p, b', rfl, hp, rfl, hk⟩ := h
  refine run_asg 3 (ev_pickN (ms := [30, 500, 1000000, 1000000000]) c__law_pick (hr.mono (by decide)) 0 1 rfl rfl (evp_new (evnp_lst (ds := [nD 30, nD 500, nD 1000000, nD 1000000000]) (evap_cons (evp_nat 30) (evap_cons (evp_nat 500) (evap_cons (evp_nat 1000000) (evap_cons (evp_nat 1000000000) eva_nil)))))) (by simp) rfl fun m hm => ?_) sc.nd
  have hm2 : 0 < m ∧ m ≤ 1000000000 := by simp at hm; omega
  refine run_asg 4 (ev_draw c__law_draw (hr.mono (by decide)) 0 1 rfl rfl (evp_var 3 rfl) hm2.1 rfl fun r hr0 => ?_) sc.nd
  refine run_ifk (etk_cmp (ev_draw c__law_draw (hr.mono (by decide)) 0 1 rfl rfl (evp_nat 4) (by walk_at "sd") rfl fun z hz => Ev.k (evp_nat 0) ⟨_, opn_eq, fun _ => ?_, fun _ => ?_⟩) (nomark _))
  · refine run_asg 5 (ev_fn c__law_raised (hr.mono (by decide)) (eva_cons (Ev.k (evp_var 2 rfl) (eva_cons (ev_draw c__law_draw (hr.mono (by decide)) 0 1 rfl rfl (evp_nat 9) (by walk_at "sd") rfl fun u hu => (EvA.k eva_nil ⟨(p, u), rfl, ⟨by dsimp only; omega, by dsimp only; omega⟩, ?_⟩)))))) sc.nd
    have hq : p ^ u ≤ 7 ^ 8 := Nat.le_trans (Nat.pow_le_pow_left hp.2 u) (Nat.pow_le_pow_right (by omega) (by omega))
    have hq : p ^ u ≤ 5764801 := hq
    generalize hqq : p ^ u = q at *
    refine run_asg 4 (ev_bin (ev_bin (Ev.k ((evp_var 5 rfl).is (d' := nD q) (by dsimp only; rw [hqq])) (ev_draw c__law_draw (hr.mono (by decide)) 0 1 rfl rfl (evp_nat 9) (by walk_at "sd") rfl fun v hv => ⟨_, opn_mul (by walk_at "sd"), (ev_draw c__law_draw (hr.mono (by decide)) 0 1 rfl rfl (evp_nat 3) (by walk_at "sd") rfl fun w hw => ⟨_, opn_add, ?_⟩)⟩)))) sc.nd
    have : q * v ≤ 5764801 * 8 := Nat.mul_le_mul hq (by omega)
    exact run_nil (run_retP (evp_var 4 rfl) (hk _ (by omega)))
  · exact run_nil (run_less (b := b') (by show b' ≤ b' + 3; omega) (run_retP (evp_var 4 rfl) (hk _ (by omega))))

theorem ok__law_raised (D : DefAt K mg "_law_raised" s__law_raised ["_law_number_here", "_law_many"]) (bi : BI mg)   : Callee P w K mg base "_law_raised" 1 (spE e2 (fun a => a.1 < 2 ^ 64 ∧ a.2 < 2 ^ 60) fun a => nD (a.1 ^ a.2)) := by
  have sc := sc__law_raised
  refine callee_of D sc mono_E (len_E fun _ => rfl) (fun f cdv A outer s H E hr ds κ h => ?_)
  obtain ⟨⟨n, k'⟩, rfl, ⟨hn, hk'⟩, hk⟩ := h
  refine run_asgP 2 (evp_nat 1) ?_ sc.nd
  refine run_forP (ein_rng (evp_var 1 rfl) bi.range (by walk_at "sd")) (pg_name (i := 3) sc.nd rfl (by walk_at "lo")) (fun i S => ∃ d3, S = ⟨0, [some (.dat (nD n)), some (.dat (nD k')), some (.dat (nD (n ^ i))), d3]⟩) ⟨none, rfl⟩ (fun i x S hx ⟨d3, eS⟩ => ?_) (fun S ⟨d3, eS⟩ => ?_)
  · subst eS
    refine ⟨_, gs_name, ?_⟩
    refine run_asgP 2 (evp_bin (evp_var 2 rfl) (evp_var 0 rfl) (opn_mul (by walk_at "sd"))) ?_ sc.nd
    exact run_nil ⟨_, rfl⟩
  · subst eS
    rw [rgN_length]
    exact run_retP (evp_var 2 rfl) hk

theorem ok__law_bent (D : DefAt K mg "_law_bent" s__law_bent ["_law_places"]) (bi : BI mg)   : Callee P w K mg base "_law_bent" 1 (spE (fun l : List Nat => [eT l]) (fun l => l.length ≤ 60 ∧ ∀ x ∈ l, x < 40) fun l => .list (bentD l)) := by
  have sc := sc__law_bent
  refine callee_of D sc mono_E (len_E fun _ => rfl) (fun f cdv A outer s H E hr ds κ h => ?_)
  obtain ⟨l, rfl, ⟨hl, hx40⟩, hk⟩ := h
  have hk : κ (.list (bentD l)) := hk
  have cz : ∀ lo hi, (PL.cutD (l.map nD) lo hi).length ≤ 60 := fun lo hi => by
    have := cutD_len (ds := l.map nD) (lo := lo) (hi := hi)
    rw [List.length_map] at this; omega
  refine run_newP 1 (evnp_lst (ds := [PyData.list (l.map nD), .tuple (l.map nD ++ [nD 0]), .tuple (PL.cutD (l.map nD) (some ((1 : Nat) : Int)) none), .tuple (PL.cutD (l.map nD) none (some (-((1 : Nat) : Int)))), eT l.reverse, .tuple (l.map nD ++ l.map nD)]) (evap_cons (evp_new (evnp_ty (evap_cons (evp_var 0 rfl) eva_nil) cn_listT bi.list boot_list)) (evap_cons (evp_bin (evp_var 0 rfl) (evp_tup (ds := [nD 0]) (evap_cons (evp_nat 0) eva_nil)) (opd_cat (by rw [sizeLine_eq]; simp only [List.length_append, List.length_map, List.length_cons, List.length_nil]; omega))) (evap_cons (evp_slT (evp_var 0 rfl) (eo_some (evp_nat 1)) eo_none) (evap_cons (evp_slT (evp_var 0 rfl) eo_none (eo_some (evp_neg (evp_nat 1)))) (evap_cons (evn_revT (evp_var 0 rfl)) (evap_cons (evp_bin (evp_var 0 rfl) (evp_var 0 rfl) (opd_cat (by rw [sizeLine_eq]; simp only [List.length_append, List.length_map, List.length_cons, List.length_nil]; omega))) eva_nil))))))) ?_ sc.nd
  refine run_ext 1 rfl (evnp_lst (ds := [.tuple [eT l], .none, .bool true, nD 7, .str "a"]) (evap_cons (evp_tup (ds := [eT l]) (evap_cons (evp_var 0 rfl) eva_nil)) (evap_cons evp_non (evap_cons evp_bl (evap_cons (evp_nat 7) (evap_cons evp_str eva_nil)))))) (by rw [sizeLine_eq]; simp) ?_
  refine run_forP (eip_enumT (evp_var 0 rfl) bi.enumerate) (pg_tup rfl (pgs_cons (pg_name (i := 2) sc.nd rfl (by walk_at "lo")) (pgs_cons (pg_name (i := 3) sc.nd rfl (by walk_at "lo")) pgs_nil))) (fun i S => ∃ d2 d3 d4, S = ⟨0, [some (.dat (eT l)), some (.mu (b0 l ++ bI l i)), d2, d3, d4]⟩) ⟨none, none, none, by rw [show bI l 0 = [] from rfl, List.append_nil]; rfl⟩ (fun i x S hx ⟨d2, d3, d4, eS⟩ => ?_) (fun S ⟨d2, d3, d4, eS⟩ => ?_)
  · subst eS
    obtain ⟨x0, hx1, rfl⟩ := enumD_get hx
    obtain ⟨y, hy, rfl⟩ := mapN_get hx1
    rw [Nat.zero_add]
    have hy40 := hx40 y (List.mem_of_getElem? hy)
    have hil : i < l.length := by
      rcases Nat.lt_or_ge i l.length with g | g
      · exact g
      · rw [List.getElem?_eq_none g] at hy; cases hy
    have hgd : l.getD i 0 = y := by rw [List.getD_eq_getElem?_getD, hy]; rfl
    have hbl := bI_len l i
    refine ⟨_, gs_tup2, ?_⟩
    refine run_forP (xs := bdL y) (eip_tup (evp_tup (ds := bdL y) (evap_cons (evp_bin (evp_var 3 rfl) (evp_nat 1) opn_add) (evap_cons (evp_bin (evp_var 3 rfl) (evp_nat 1) opd_sub) (evap_cons (evp_ty (evap_cons (evp_var 3 rfl) eva_nil) cd_boolI bi.bool (by decide +kernel)) (evap_cons (evp_ty (evap_cons (evp_var 3 rfl) eva_nil) (cd_strI (log_small y hy40)) bi.str (by decide +kernel)) (evap_cons evp_non (evap_cons (evp_tup (ds := [nD y]) (evap_cons (evp_var 3 rfl) eva_nil)) (evap_cons (evp_new (evnp_lst (ds := [nD y]) (evap_cons (evp_var 3 rfl) eva_nil))) eva_nil))))))) (by rw [sizeLine_eq]; show 7 ≤ 16777216; decide))) (pg_name (i := 4) sc.nd rfl (by walk_at "lo")) (fun j S => ∃ d4, S = ⟨0, [some (.dat (eT l)), some (.mu (b0 l ++ bI l i ++ ((bdL y).take j).map (btD l i))), some (.dat (nD i)), some (.dat (nD y)), d4]⟩) ⟨d4, by rw [List.take_zero, List.map_nil, List.append_nil]; rfl⟩ (fun j x S hx ⟨d4, eS⟩ => ?_) (fun S ⟨d4, eS⟩ => ?_)
    · subst eS
      refine ⟨_, gs_name, ?_⟩
      refine run_app 1 rfl (by rw [List.length_append, List.length_append, List.length_map, List.length_take, b0_len, hbl, sizeLine_eq]; show 11 + 7 * i + min j 7 < _; omega) (evs_drpP ((evp_bin (evp_bin (evp_slT (evp_var 0 rfl) eo_none (eo_some (evp_var 2 rfl))) (evp_tup (ds := [x]) (evap_cons (evp_var 4 rfl) eva_nil)) (opd_cat (by have := cz none (some (i : Int)); rw [sizeLine_eq]; show _ + 1 ≤ _; omega))) (evp_slT (evp_var 0 rfl) (eo_some (evp_bin (evp_var 2 rfl) (evp_nat 1) opn_add)) eo_none) (opd_cat (by have h1 := cz none (some (i : Int)); have h2 := cz (some ((i + 1 : Nat) : Int)) none; rw [List.length_append, sizeLine_eq]; show _ + 1 + _ ≤ _; omega))).is (d' := btD l i x) rfl) ?_)
      exact run_nil ⟨_, by rw [List.take_add_one, hx, List.map_append, ← List.append_assoc]; rfl⟩
    subst eS
    rw [List.take_length]
    exact run_nil ⟨_, _, _, by rw [bI_succ, hgd, ← List.append_assoc]⟩
  subst eS
  refine run_give 1 rfl ?_
  refine run_retP (evp_var 1 rfl) ?_
  rw [enumD_len, List.length_map]
  exact hk

theorem ok__law_same (D : DefAt K mg "_law_same" s__law_same ["_law_thing", "_law_places"]) (bi : BI mg)   : Callee P w K mg base "_law_same" 1 (spE (fun a : PyData × List Nat => [a.1, eT a.2]) (fun a => PL.Good a.1) fun a => .bool (paper a.2 a.1)) := by
  have sc := sc__law_same
  refine callee_of D sc mono_E (len_E fun _ => rfl) (fun f cdv A outer s H E hr ds κ h => ?_)
  obtain ⟨⟨d, l⟩, rfl, ⟨hg1, hg2⟩, hk⟩ := h
  have hk : κ (.bool (paper l d)) := hk
  have hg1 : (tyD d).isSome = true := hg1
  have hg2 : ∀ ds, d = .tuple ds → SeqAt.shaped d = true ∧ ds.length ≤ 100000 ∧ ∀ x ∈ ds, (tyD x).isSome = true := hg2
  obtain ⟨t, ht⟩ := Option.isSome_iff_exists.mp hg1
  by_cases hT : ∃ ds, d = .tuple ds
  · obtain ⟨ds, rfl⟩ := hT
    obtain ⟨k1, k2, k3⟩ := hg2 ds rfl
    rw [paper_T] at hk
    cases heq : PyData.eqv (.tuple ds) (eT l) with
    | false =>
      rw [heq, Bool.false_and] at hk
      refine run_yes (et_w (ew_or (et_not (et_val (evp_is "tuple" (evp_var 0 rfl) bi.isinstance bi.tuple (by decide +kernel)))) fun _ => (ew_or1 ((et_cmp (evp_var 0 rfl) (evp_var 1 rfl) (opd_neD hr.units k1 (shaped_TN l)) (nomark _)).is (c' := true) (by rw [heq]; rfl))))) ?_ (by simp [tyIs])
      exact run_retP evp_bl hk
    | true =>
      rw [heq, Bool.true_and] at hk
      refine run_no0 (et_w (ew_or (et_not (et_val (evp_is "tuple" (evp_var 0 rfl) bi.isinstance bi.tuple (by decide +kernel)))) fun _ => (ew_or1 ((et_cmp (evp_var 0 rfl) (evp_var 1 rfl) (opd_neD hr.units k1 (shaped_TN l)) (nomark _)).is (c' := false) (by rw [heq]; rfl))))) ?_ (by simp [tyIs])
      refine run_retP ((evp_not (evp_bi (evap_cons (evp_new (evnp_mapB (own := [("_law_one", 2)]) (f := isBl) ds id (fun y => [(2, y)]) sc.nd (by rw [List.map_id]; exact eip_tup (evp_var 0 rfl)) (blkOk_by (N := n__law_same) (sc := defScope s__law_same) (by decide +kernel)) (fun _ _ _ _ _ => pg_name (i := 2) sc.nd rfl (by walk_at "lo")) (by rw [sizeLine_eq]; omega) (fun x hx => ⟨own_ok [2] (by decide) rfl, gs_name⟩) (fun x hx _ _ _ _ _ => by
        obtain ⟨t, ht⟩ := Option.isSome_iff_exists.mp (k3 x hx)
        exact (evp_is "bool" (d := x) (evp_var 2 rfl) bi.isinstance bi.bool (by decide +kernel) ht).is (by rw [isBl_ty ht])))) eva_nil) cd_any bi.any (by decide +kernel))).is (d' := .bool (ds.filter isBl).isEmpty) (by rw [any_bl])) hk
  · have hp0 : paper l d = false := by
      cases d with
      | tuple ds => exact absurd ⟨ds, rfl⟩ hT
      | _ => rfl
    rw [hp0] at hk
    have hti : tyIs t "tuple" = false := by
      cases d with
      | tuple ds => exact absurd ⟨ds, rfl⟩ hT
      | dict _ => cases ht
      | _ => cases ht; rfl
    refine run_yes (et_w (ew_or (q := false) (et_not (et_val (evp_is "tuple" (d := d) (evp_var 0 rfl) bi.isinstance bi.tuple (by decide +kernel) ht))) fun z => by rw [hti] at z; cases z)) ?_ (by rw [hti]; rfl)
    exact run_retP evp_bl hk

theorem ok__law_kind (D : DefAt K mg "_law_kind" s__law_kind ["_law_error"]) (bi : BI mg)  {a_ChoiceError : Addr} {a_NoPlace : Addr} {a_NoRest : Addr} {a_NoText : Addr} (ec_NoPlace : ExC K mg "NoPlace" a_NoPlace) (ec_NoRest : ExC K mg "NoRest" a_NoRest) (ec_NoText : ExC K mg "NoText" a_NoText) (ec_ChoiceError : ExC K mg "ChoiceError" a_ChoiceError) (xf4 : XF4 K a_NoPlace a_NoRest a_NoText a_ChoiceError)  : CalleeE P w K mg base "_law_kind" 1 (X3 a_NoPlace a_NoRest a_NoText) (kdD a_NoPlace a_NoRest a_NoText) := by
  have sc := sc__law_kind
  refine calleeE_of D sc (fun f cdv A outer s H a oe Dx hh hD => ?_)
  refine run_asgP 1 (evp_new (evnp_lst (ds := [nD (if decide (Dx = a_NoText) then 1 else 0), nD (if decide (Dx = a_NoPlace) then 1 else 0), nD (if decide (Dx = a_NoRest) then 1 else 0)]) (evap_cons (evp_ty (evap_cons (evp_isX (xf4.ex Dx hD) hh (evp_var 0 rfl) ec_NoText.mg (xf4.kT Dx hD) bi.isinstance) eva_nil) cdn_intB bi.int (by decide +kernel)) (evap_cons (evp_ty (evap_cons (evp_isX (xf4.ex Dx hD) hh (evp_var 0 rfl) ec_NoPlace.mg (xf4.kP Dx hD) bi.isinstance) eva_nil) cdn_intB bi.int (by decide +kernel)) (evap_cons (evp_ty (evap_cons (evp_isX (xf4.ex Dx hD) hh (evp_var 0 rfl) ec_NoRest.mg (xf4.kR Dx hD) bi.isinstance) eva_nil) cdn_intB bi.int (by decide +kernel)) eva_nil))))) ?_ sc.nd
  exact run_retP (evp_tup (ds := [.list [nD (if decide (Dx = a_NoText) then 1 else 0), nD (if decide (Dx = a_NoPlace) then 1 else 0), nD (if decide (Dx = a_NoRest) then 1 else 0)], .bool true]) (evap_cons (evp_var 1 rfl) (evap_cons (evp_and (p := true) (q := true) (evp_isX (xf4.ex Dx hD) hh (evp_var 0 rfl) ec_ChoiceError.mg (xf4.kC Dx hD) bi.isinstance) fun _ => (evp_one (evp_isXB (xf4.ex Dx hD) hh (evp_var 0 rfl) bi.ValueError (by decide +kernel) (xf4.kV Dx hD) bi.isinstance))) eva_nil))) rfl

theorem ok__law_told (D : DefAt K mg "_law_told" s__law_told ["_law_word", "_law_one", "_law_prime_here", "_law_number_here"]) (bi : BI mg)  {a_ChoiceError : Addr} {a_NoPlace : Addr} {a_NoRest : Addr} {a_NoText : Addr} (ec_NoPlace : ExC K mg "NoPlace" a_NoPlace) (ec_NoRest : ExC K mg "NoRest" a_NoRest) (ec_NoText : ExC K mg "NoText" a_NoText) (ec_ChoiceError : ExC K mg "ChoiceError" a_ChoiceError) (xf4 : XF4 K a_NoPlace a_NoRest a_NoText a_ChoiceError) (cx_place_at : CalleeX P w K mg base "place_at" 3 (fun ds => ∃ (n p : Nat) (z : Int), ds = [nD n, nD p, .int z] ∧ n < 2 ^ 200 ∧ 2 ≤ p ∧ p ≤ 7 ∧ ¬ (0 ≤ z ∧ z < (PL.cnt p n : Int))) (.ref a_NoPlace)) (cx_first_with : CalleeX P w K mg base "first_with" 4 (fun ds => ∃ (p m : Nat) (z : Int), ds = [nD p, .int z, nD m] ∧ ¬ (0 ≤ z ∧ z < (p : Int))) (.ref a_NoRest)) (cx_read : CalleeX P w K mg base "read" 2 (fun ds => ∃ l : List Nat, ds = [tD l] ∧ l.length ≤ 1000 ∧ ¬ isSay l) (.ref a_NoText)) (c_place_at : Callee P w K mg base "place_at" 3 sp_place_at) (c__law_kind : CalleeE P w K mg base "_law_kind" 1 (X3 a_NoPlace a_NoRest a_NoText) (kdD a_NoPlace a_NoRest a_NoText)) (c_first_with : Callee P w K mg base "first_with" 4 sp_first_with) (c_read : Callee P w K mg base "read" 2 sp_read) : Callee P w K mg base "_law_told" 5 (spE enc39 (fun a => a.w < 3 ∧ a.one < 2 ^ 40 ∧ Pr a.p ∧ a.l.length ≤ 60) out39) := by
  have sc := sc__law_told
  refine callee_of D sc mono_E (len_E fun _ => rfl) (fun f cdv A outer s H E hr ds κ h => ?_)
  obtain ⟨⟨w, one, p, z, l⟩, rfl, ⟨hw, hn, hp, hl⟩, hk⟩ := h
  have hw : w < 3 := hw
  have hn : one < 2 ^ 40 := hn
  have hp : Pr p := hp
  have hl : l.length ≤ 60 := hl
  have h2 := Pr_two hp
  have h7 := Pr_seven hp
  by_cases g0 : w = 0
  · subst g0
    show Run _ _ _ ⟨0, [some (.dat (tD [112, 108, 97, 99, 101])), some (.dat (nD one)), some (.dat (nD p)), some (.dat (.int z)), none]⟩ _
    have hD : X3 a_NoPlace a_NoRest a_NoText a_NoPlace := .inl rfl
    have hk2 : κ (if 0 ≤ z ∧ z < (PL.cnt p one : Int) then .none else kd3 0 1 0) := hk
    by_cases g : 0 ≤ z ∧ z < (PL.cnt p one : Int)
    · rw [if_pos g] at hk2
      obtain ⟨m, rfl⟩ : ∃ m : Nat, z = (m : Int) := ⟨z.toNat, by omega⟩
      exact run_tryN (run_yes ((et_cmp (evp_var 0 rfl) (evp_tx [112, 108, 97, 99, 101]) opn_eqS (nomark _)).is (c' := true) (by decide)) (run_exprP (evp_fn c_place_at (hr.mono (by decide)) (evap_cons (evp_var 1 rfl) (evap_cons (evp_var 2 rfl) (evap_cons (evp_var 3 rfl) eva_nil))) ⟨(one, p, m), rfl, ⟨by dsimp only; omega, h2, h7, by dsimp only; omega⟩, rfl⟩) (run_nil (run_nil (run_retP evp_non hk2)))))
    · rw [if_neg g, ← kd_P xf4] at hk2
      refine run_tryAs (D := a_NoPlace) (Ps := fun S' => S' = _) 4 ⟨rfl, by decide, .inl ec_ChoiceError.mg⟩ (fun pn xe => runx_if ((et_cmp (evp_var 0 rfl) (evp_tx [112, 108, 97, 99, 101]) opn_eqS (nomark _)).is (c' := true) (by decide)) (fun _ => runx_exprX (evx_fn cx_place_at (hr.mono (by decide)) (evap_cons (evp_var 1 rfl) (evap_cons (evp_var 2 rfl) (evap_cons (evp_var 3 rfl) eva_nil))) ⟨one, p, z, rfl, by omega, h2, h7, g⟩) rfl) (fun h => by cases h)) (xf4.up _ hD) (fun a oe pn S' hh hS => ?_) sc.nd
      subst hS
      exact run_retP (evp_fnE c__law_kind (roomH_mark (hr.mono (by decide))) hh hD (evp_var 4 rfl)) hk2
  by_cases g1 : w = 1
  · subst g1
    show Run _ _ _ ⟨0, [some (.dat (tD [102, 105, 114, 115, 116])), some (.dat (nD one)), some (.dat (nD p)), some (.dat (.int z)), none]⟩ _
    have hD : X3 a_NoPlace a_NoRest a_NoText a_NoRest := .inr (.inl rfl)
    have hk2 : κ (if 0 ≤ z ∧ z < (p : Int) then .none else kd3 0 0 1) := hk
    by_cases g : 0 ≤ z ∧ z < (p : Int)
    · rw [if_pos g] at hk2
      obtain ⟨m, rfl⟩ : ∃ m : Nat, z = (m : Int) := ⟨z.toNat, by omega⟩
      exact run_tryN (run_no ((et_cmp (evp_var 0 rfl) (evp_tx [112, 108, 97, 99, 101]) opn_eqS (nomark _)).is (c' := false) (by decide)) (run_yes ((et_cmp (evp_var 0 rfl) (evp_tx [102, 105, 114, 115, 116]) opn_eqS (nomark _)).is (c' := true) (by decide)) (run_exprP (evp_fn c_first_with (hr.mono (by decide)) (evap_cons (evp_var 2 rfl) (evap_cons (evp_var 3 rfl) (evap_cons (evp_var 1 rfl) eva_nil))) ⟨(p, m, one), rfl, ⟨by dsimp only; omega, hp, by dsimp only; omega⟩, rfl⟩) (run_nil (run_nil (run_nil (run_retP evp_non hk2)))))))
    · rw [if_neg g, ← kd_R xf4] at hk2
      refine run_tryAs (D := a_NoRest) (Ps := fun S' => S' = _) 4 ⟨rfl, by decide, .inl ec_ChoiceError.mg⟩ (fun pn xe => runx_if ((et_cmp (evp_var 0 rfl) (evp_tx [112, 108, 97, 99, 101]) opn_eqS (nomark _)).is (c' := false) (by decide)) (fun h => by cases h) (fun _ => runx_if ((et_cmp (evp_var 0 rfl) (evp_tx [102, 105, 114, 115, 116]) opn_eqS (nomark _)).is (c' := true) (by decide)) (fun _ => runx_exprX (evx_fn cx_first_with (hr.mono (by decide)) (evap_cons (evp_var 2 rfl) (evap_cons (evp_var 3 rfl) (evap_cons (evp_var 1 rfl) eva_nil))) ⟨p, one, z, rfl, g⟩) rfl) (fun h => by cases h))) (xf4.up _ hD) (fun a oe pn S' hh hS => ?_) sc.nd
      subst hS
      exact run_retP (evp_fnE c__law_kind (roomH_mark (hr.mono (by decide))) hh hD (evp_var 4 rfl)) hk2
  have g2 : w = 2 := by omega
  subst g2
  show Run _ _ _ ⟨0, [some (.dat (tD [114, 101, 97, 100])), some (.dat (nD one)), some (.dat (nD p)), some (.dat (tD l)), none]⟩ _
  have hD : X3 a_NoPlace a_NoRest a_NoText a_NoText := .inr (.inr rfl)
  have hk2 : κ (if (rdS l).isSome then .none else kd3 1 0 0) := hk
  by_cases g : isSay l
  · obtain ⟨q, m, hq, rfl⟩ := g
    rw [rdS_say hq, if_pos (show (some (m, q)).isSome = true from rfl)] at hk2
    exact run_tryN (run_no ((et_cmp (evp_var 0 rfl) (evp_tx [112, 108, 97, 99, 101]) opn_eqS (nomark _)).is (c' := false) (by decide)) (run_no ((et_cmp (evp_var 0 rfl) (evp_tx [102, 105, 114, 115, 116]) opn_eqS (nomark _)).is (c' := false) (by decide)) (run_exprP (evp_fn c_read (hr.mono (by decide)) (evap_cons (evp_var 3 rfl) eva_nil) ⟨(m, q), rfl, ⟨show m < 2 ^ 200 from say_small hq (Nat.le_refl 65) (by omega), hq⟩, rfl⟩) (run_nil (run_nil (run_nil (run_retP evp_non hk2)))))))
  · rw [rdS_none g, if_neg (by decide), ← kd_T xf4] at hk2
    refine run_tryAs (D := a_NoText) (Ps := fun S' => S' = _) 4 ⟨rfl, by decide, .inl ec_ChoiceError.mg⟩ (fun pn xe => runx_if ((et_cmp (evp_var 0 rfl) (evp_tx [112, 108, 97, 99, 101]) opn_eqS (nomark _)).is (c' := false) (by decide)) (fun h => by cases h) (fun _ => runx_if ((et_cmp (evp_var 0 rfl) (evp_tx [102, 105, 114, 115, 116]) opn_eqS (nomark _)).is (c' := false) (by decide)) (fun h => by cases h) (fun _ => runx_exprX (evx_fn cx_read (hr.mono (by decide)) (evap_cons (evp_var 3 rfl) eva_nil) ⟨l, rfl, by omega, g⟩) rfl))) (xf4.up _ hD) (fun a oe pn S' hh hS => ?_) sc.nd
    subst hS
    exact run_retP (evp_fnE c__law_kind (roomH_mark (hr.mono (by decide))) hh hD (evp_var 4 rfl)) hk2

end
end G
namespace G
open PySem PySem.Spec PyProof.Rows L2 RZ PL
local macro_rules | `(tactic| walk_at "sd") => `(tactic| first | assumption | omega | ((try dsimp only [PreN, Pre2]); (first | assumption | omega | (refine ⟨by (try dsimp only); omega, .inl (by (try dsimp only); omega)⟩) | (exact .inl (by omega)) | (exact .inr (.inl (by omega))) | (show _ ∧ _; omega) | decide)))
local macro_rules | `(tactic| walk_at "sz") => `(tactic| ((first | rw [sizeLine_eq] | skip); (first | omega | (simp only [List.length_map, List.length_append, List.length_cons, List.length_nil, List.length_replicate, List.length_reverse, List.length_range, rgN_length] at *; omega))))
local macro_rules | `(tactic| walk_at "nol") => `(tactic| first | rfl | exact noL_nDs _ | exact noLs_nD _)
local macro_rules | `(tactic| walk_at "dp") => `(tactic| repeat (first | exact deep_nD | exact deep_z | exact deep_b | exact deep_0 | exact deep_s | exact deep_N (by dsimp only; omega) | exact deep_N (by assumption) | exact all_n | refine all_c ?_ ?_ | refine deep_t ?_ (by simp) | refine deep_N ?_))
local macro_rules | `(tactic| walk_at "lo") => `(tactic| first | exact .inl rfl | exact .inr rfl)
section
variable {P : Program} {w : World} {K : PySem.W.Frag} {mg : Str → Option Value} {base : Heap}
theorem ok_law {f : Addr} {fd : FuncData} (F : Fun K "law" "law" s_law f fd) (bi : BI mg)  (c__law_prime : CalleeT P w K mg base "_law_prime" 3 spPrime) (c__law_number : CalleeT P w K mg base "_law_number" 3 spNumB) (c__law_draw : CalleeT P w K mg base "_law_draw" 1 spDraw) (c_carry_places : Callee P w K mg base "carry_places" 1 sp_carry_places) (c_is_carry_paper : Callee P w K mg base "is_carry_paper" 2 sp_is_carry_paper) (c__law_bent : Callee P w K mg base "_law_bent" 1 (spE (fun l : List Nat => [eT l]) (fun l => l.length ≤ 60 ∧ ∀ x ∈ l, x < 40) fun l => .list (bentD l))) (c_count : Callee P w K mg base "count" 2 sp_count) (c__law_told : Callee P w K mg base "_law_told" 5 (spE enc39 (fun a => a.w < 3 ∧ a.one < 2 ^ 40 ∧ Pr a.p ∧ a.l.length ≤ 60) out39)) (c__law_same : Callee P w K mg base "_law_same" 1 (spE (fun a : PyData × List Nat => [a.1, eT a.2]) (fun a => PL.Good a.1) fun a => .bool (paper a.2 a.1))) : FnOk P w K mg base CX0 6 f fd ["_law_script"] (spLaw K) := by
  have sc := sc_law
  refine fn_law F sc (fun cdv A outer s H E hr scr hscr => ?_)
  refine run_found 1 100000 (by rw [sizeLine_eq]; decide) (fun t => ?_) (fun j ds => by match j with | 0 => exact fun z => by cases z | 1 => exact fun z => by cases z | j + 2 => intro z; have := List.mem_of_getElem? z; simp [startS] at this) sc.nd
  refine run_forP (ein_rng (evp_nat 6) bi.range (by walk_at "sd")) (pg_name (i := 2) sc.nd rfl (by walk_at "lo")) (fun i S => ∃ b d2 d3 d4 d5 d6 d7 d8 d9 d10, S = ⟨b, [some (.scr scr), some .town, d2, d3, d4, d5, d6, d7, d8, d9, d10]⟩ ∧ 100000 ≤ b + 20 * i) ⟨_, _, _, _, _, _, _, _, _, _, rfl, Nat.le_add_right _ _⟩ (fun i x S hx ⟨b, d2, d3, d4, d5, d6, d7, d8, d9, d10, eS, hb⟩ => ?_) (fun S ⟨b, d2, d3, d4, d5, d6, d7, d8, d9, d10, eS, hb⟩ => ?_)
  · subst eS
    obtain ⟨hi, rfl⟩ := rgN_get hx
    generalize hi0 : i = i0 at hi hx
    obtain ⟨b, rfl⟩ : ∃ b', b = b' + 9 := ⟨b - 9, by omega⟩
    refine ⟨_, gs_name, ?_⟩
    refine run_asg 3 (ev_prime c__law_prime (hr.mono (by decide)) 0 1 rfl rfl rfl fun p hp => ?_) sc.nd
    have h2 : 2 ≤ p := by omega
    have h7 : p ≤ 7 := by omega
    have hpr : Pr p := hp
    refine run_asg 4 (ev_numB c__law_number (hr.mono (by decide)) 0 1 rfl rfl (evp_var 3 rfl) ⟨h2, h7⟩ rfl fun n hn => ?_) sc.nd
    refine run_asg 5 (ev_draw c__law_draw (hr.mono (by decide)) 0 1 rfl rfl (evp_bin (evp_var 4 rfl) (evp_nat 1) opn_add) (by walk_at "sd") rfl fun s hs => ?_) sc.nd
    have hs : s ≤ n := by omega
    refine run_asgP 6 (d := eT (cyL p s (n - s))) (evp_fn c_carry_places (hr.mono (by decide)) (evap_cons (evp_var 5 rfl) (evap_cons (evp_bin (evp_var 4 rfl) (evp_var 5 rfl) (opn_sub hs)) (evap_cons (evp_var 3 rfl) eva_nil))) ⟨(s, n - s, p), rfl, ⟨by dsimp only; omega, by dsimp only; omega, h2, h7⟩, rfl⟩) ?_ sc.nd
    have hln : (cyL p s (n - s)).length ≤ 30 := cyL_len h2 (by
      have g1 : 2 ^ 30 ≤ p ^ 30 := Nat.pow_le_pow_left h2 _
      omega)
    have hdx : ∀ x ∈ cyL p s (n - s), x < 30 := fun x hx => by
      rw [← cyR_eq (K := 30) h2 (by
        have g1 : 2 ^ 30 ≤ p ^ 30 := Nat.pow_le_pow_left h2 _
        omega)] at hx
      exact List.mem_range.mp (List.mem_filter.mp hx).1
    have hgL : PL.Good (eT (cyL p s (n - s))) := good_N _ (by omega)
    refine run_no0 ((et_cmp (evp_fn c_is_carry_paper (hr.mono (by decide)) (evap_cons (evp_var 4 rfl) (evap_cons (evp_var 5 rfl) (evap_cons (evp_var 3 rfl) (evap_cons (evp_var 6 rfl) eva_nil)))) ⟨(n, s, p, eT (cyL p s (n - s))), rfl, ⟨hs, by dsimp only; omega, ⟨h2, h7⟩, hgL⟩, rfl⟩) evp_bl opd_notB (nomark _)).is (c' := false) (by dsimp only; rw [paper_N]; simp)) ?_
    generalize hL : cyL p s (n - s) = L at *
    refine run_forP (xs := bentD L ++ [.tuple [], .tuple [nD 0], .tuple [.bool true], .tuple [.bool false], .tuple [nD 0, nD 1], .list [], .str ""]) (eip_list (EvP.is (evp_bin (evp_fn (d := .list (bentD L)) c__law_bent (hr.mono (by decide)) (evap_cons (evp_var 6 rfl) eva_nil) ⟨L, rfl, ⟨by omega, fun x hx => by have := hdx x hx; omega⟩, rfl⟩) (evp_new (evnp_lst (ds := [.tuple [], .tuple [nD 0], .tuple [.bool true], .tuple [.bool false], .tuple [nD 0, nD 1], .list [], .str ""]) ?bads (by rw [sizeLine_eq]; show 7 ≤ 16777216; decide))) (opd_catL (by unfold bentD; rw [List.length_append, b0_len, bI_len, sizeLine_eq]; simp only [List.length_cons, List.length_nil]; omega))) rfl)) (pg_name (i := 7) sc.nd rfl (by walk_at "lo")) (fun i S => ∃ d7, S = ⟨b + 1, [some (.scr scr), some .town, some (.dat (nD i0)), some (.dat (nD p)), some (.dat (nD n)), some (.dat (nD s)), some (.dat (eT L)), d7, d8, d9, d10]⟩) ⟨_, rfl⟩ (fun i x S hx ⟨d7, eS⟩ => ?_) (fun S ⟨d7, eS⟩ => ?_)
    case bads =>
      refine evap_cons ?_ ?_
      · exact (evp_tup (ds := []) eva_nil)
      refine evap_cons ?_ ?_
      · exact (evp_tup (ds := [nD 0]) (evap_cons (evp_nat 0) eva_nil))
      refine evap_cons ?_ ?_
      · exact (evp_tup (ds := [.bool true]) (evap_cons evp_bl eva_nil))
      refine evap_cons ?_ ?_
      · exact (evp_tup (ds := [.bool false]) (evap_cons evp_bl eva_nil))
      refine evap_cons ?_ ?_
      · exact (evp_tup (ds := [nD 0, nD 1]) (evap_cons (evp_nat 0) (evap_cons (evp_nat 1) eva_nil)))
      refine evap_cons ?_ ?_
      · exact (evp_new (evnp_lst (ds := []) eva_nil))
      refine evap_cons ?_ ?_
      · exact evp_str
      exact eva_nil
    · subst eS
      have hgx : PL.Good x := by
        rcases List.mem_append.mp (List.mem_of_getElem? hx) with h | h
        · exact good_bent (by omega) (fun x hx => by have := hdx x hx; omega) x h
        · simp only [List.mem_cons, List.not_mem_nil, or_false] at h
          rcases h with rfl | rfl | rfl | rfl | rfl | rfl | rfl
          · exact good_nc (n := 0) (by decide) (by simp) (by decide)
          · exact good_nc (n := 0) (by decide) (by simp [nc]) (by show 1 ≤ 100000; decide)
          · exact good_nc (n := 0) (by decide) (by simp [nc]) (by show 1 ≤ 100000; decide)
          · exact good_nc (n := 0) (by decide) (by simp [nc]) (by show 1 ≤ 100000; decide)
          · exact good_nc (n := 0) (by decide) (by simp [nc]) (by show 2 ≤ 100000; decide)
          · exact good_list _
          · exact ⟨rfl, fun _ e => by cases e⟩
      refine ⟨_, gs_name, ?_⟩
      refine run_no0 ((et_cmp (evp_fn c_is_carry_paper (hr.mono (by decide)) (evap_cons (evp_var 4 rfl) (evap_cons (evp_var 5 rfl) (evap_cons (evp_var 3 rfl) (evap_cons (evp_var 7 rfl) eva_nil)))) ⟨(n, s, p, x), rfl, ⟨hs, by dsimp only; omega, ⟨h2, h7⟩, hgx⟩, rfl⟩) (evp_fn c__law_same (hr.mono (by decide)) (evap_cons (evp_var 7 rfl) (evap_cons (evp_var 6 rfl) eva_nil)) ⟨(x, L), rfl, hgx, rfl⟩) opd_neB (nomark _)).is (c' := false) (by dsimp only; rw [hL]; simp)) ?_
      exact run_nil ⟨_, rfl⟩
    subst eS
    have hcp := cnt_pos p n
    generalize hc : PL.cnt p n = c at hcp
    refine run_forP (xs := [.int (-((1 : Nat) : Int)), nD c, nD (c + 5)]) (eip_tup (evp_tup (evap_cons (evp_neg (evp_nat 1)) (evap_cons ((evp_fn c_count (hr.mono (by decide)) (evap_cons (evp_var 4 rfl) (evap_cons (evp_var 3 rfl) eva_nil)) ⟨(n, p), rfl, ⟨by dsimp only; omega, h2, h7⟩, rfl⟩).is (d' := nD c) (by rw [← hc])) (evap_cons (evp_bin ((evp_fn c_count (hr.mono (by decide)) (evap_cons (evp_var 4 rfl) (evap_cons (evp_var 3 rfl) eva_nil)) ⟨(n, p), rfl, ⟨by dsimp only; omega, h2, h7⟩, rfl⟩).is (d' := nD c) (by rw [← hc])) (evp_nat 5) opn_add) eva_nil))))) (pg_name (i := 8) sc.nd rfl (by walk_at "lo")) (fun i S => ∃ d8, S = ⟨b + 1, [some (.scr scr), some .town, some (.dat (nD i0)), some (.dat (nD p)), some (.dat (nD n)), some (.dat (nD s)), some (.dat (eT L)), d7, d8, d9, d10]⟩) ⟨_, rfl⟩ (fun i x S hx ⟨d8, eS⟩ => ?_) (fun S ⟨d8, eS⟩ => ?_)
    · subst eS
      obtain ⟨z, rfl, hz⟩ : ∃ z : Int, x = .int z ∧ ¬ (0 ≤ z ∧ z < (PL.cnt p n : Int)) := by
        have h := List.mem_of_getElem? hx
        simp only [List.mem_cons, List.not_mem_nil, or_false] at h
        rw [hc]
        rcases h with rfl | rfl | rfl
        · exact ⟨_, rfl, by omega⟩
        · exact ⟨_, rfl, by omega⟩
        · exact ⟨_, rfl, by omega⟩
      refine ⟨_, gs_name, ?_⟩
      refine run_no0 ((et_cmp ((evp_fn c__law_told (hr.mono (by decide)) (evap_cons (evp_tx [112, 108, 97, 99, 101]) (evap_cons (evp_var 4 rfl) (evap_cons (evp_var 3 rfl) (evap_cons (evp_var 8 rfl) eva_nil)))) ⟨⟨0, n, p, z, []⟩, rfl, ⟨by dsimp only; omega, by dsimp only; omega, hpr, by dsimp only; decide⟩, rfl⟩).is (d' := kd3 0 1 0) (by unfold out39; dsimp only; rw [if_pos rfl, if_neg hz])) (evp_tup (ds := [.list [nD 0, nD 1, nD 0], .bool true]) (evap_cons (evp_new (evnp_lst (ds := [nD 0, nD 1, nD 0]) (evap_cons (evp_nat 0) (evap_cons (evp_nat 1) (evap_cons (evp_nat 0) eva_nil))))) (evap_cons evp_bl eva_nil))) (opd_neD hr.units (by decide +kernel) (by decide +kernel)) (nomark _)).is (c' := false) (by decide +kernel)) ?_
      exact run_nil ⟨_, rfl⟩
    subst eS
    refine run_asg 9 (ev_draw c__law_draw (hr.mono (by decide)) 0 1 rfl rfl (evp_nat 40) (by walk_at "sd") rfl fun m hm => ?_) sc.nd
    refine run_forP (xs := [.int (-((1 : Nat) : Int)), nD p, nD (p + 1)]) (eip_tup (evp_tup (evap_cons (evp_neg (evp_nat 1)) (evap_cons (evp_var 3 rfl) (evap_cons (evp_bin (evp_var 3 rfl) (evp_nat 1) opn_add) eva_nil))))) (pg_name (i := 8) sc.nd rfl (by walk_at "lo")) (fun i S => ∃ d8, S = ⟨b, [some (.scr scr), some .town, some (.dat (nD i0)), some (.dat (nD p)), some (.dat (nD n)), some (.dat (nD s)), some (.dat (eT L)), d7, d8, some (.dat (nD m)), d10]⟩) ⟨_, rfl⟩ (fun i x S hx ⟨d8, eS⟩ => ?_) (fun S ⟨d8, eS⟩ => ?_)
    · subst eS
      obtain ⟨z, rfl, hz⟩ : ∃ z : Int, x = .int z ∧ ¬ (0 ≤ z ∧ z < (p : Int)) := by
        have h := List.mem_of_getElem? hx
        simp only [List.mem_cons, List.not_mem_nil, or_false] at h
        rcases h with rfl | rfl | rfl
        · exact ⟨_, rfl, by omega⟩
        · exact ⟨_, rfl, by omega⟩
        · exact ⟨_, rfl, by omega⟩
      refine ⟨_, gs_name, ?_⟩
      refine run_no0 ((et_cmp ((evp_fn c__law_told (hr.mono (by decide)) (evap_cons (evp_tx [102, 105, 114, 115, 116]) (evap_cons (evp_var 9 rfl) (evap_cons (evp_var 3 rfl) (evap_cons (evp_var 8 rfl) eva_nil)))) ⟨⟨1, m, p, z, []⟩, rfl, ⟨by dsimp only; omega, by dsimp only; omega, hpr, by dsimp only; decide⟩, rfl⟩).is (d' := kd3 0 0 1) (by unfold out39; dsimp only; rw [if_neg (by decide), if_pos rfl, if_neg hz])) (evp_tup (ds := [.list [nD 0, nD 0, nD 1], .bool true]) (evap_cons (evp_new (evnp_lst (ds := [nD 0, nD 0, nD 1]) (evap_cons (evp_nat 0) (evap_cons (evp_nat 0) (evap_cons (evp_nat 1) eva_nil))))) (evap_cons evp_bl eva_nil))) (opd_neD hr.units (by decide +kernel) (by decide +kernel)) (nomark _)).is (c' := false) (by decide +kernel)) ?_
      exact run_nil ⟨_, rfl⟩
    subst eS
    refine run_forP (xs := [[], [120, 32, 98, 121, 32, 50], [49, 32, 98, 121, 32, 52], [49], [48, 49, 32, 98, 121, 32, 51]].map tD) (eip_tup (evp_tup (evap_cons (evp_tx []) (evap_cons (evp_tx [120, 32, 98, 121, 32, 50]) (evap_cons (evp_tx [49, 32, 98, 121, 32, 52]) (evap_cons (evp_tx [49]) (evap_cons (evp_tx [48, 49, 32, 98, 121, 32, 51]) eva_nil))))) (by rw [sizeLine_eq]; decide))) (pg_name (i := 10) sc.nd rfl (by walk_at "lo")) (fun i S => ∃ d10, S = ⟨b, [some (.scr scr), some .town, some (.dat (nD i0)), some (.dat (nD p)), some (.dat (nD n)), some (.dat (nD s)), some (.dat (eT L)), d7, d8, some (.dat (nD m)), d10]⟩) ⟨_, rfl⟩ (fun i x S hx ⟨d10, eS⟩ => ?_) (fun S ⟨d10, eS⟩ => ?_)
    · subst eS
      obtain ⟨l, hl, rfl⟩ := List.mem_map.mp (List.mem_of_getElem? hx)
      have hq4 : ¬ Pr 4 := by unfold Pr; decide
      have hll : l.length ≤ 60 ∧ ¬ isSay l := by
        simp only [List.mem_cons, List.not_mem_nil, or_false] at hl
        rcases hl with rfl | rfl | rfl | rfl | rfl
        · exact ⟨by decide, ns_short (by simp)⟩
        · exact ⟨by decide, bad_w (w := [120]) _ 50 rfl fun q hq e => nok_mem (c := 120) (by simp) (by omega)⟩
        · exact ⟨by decide, bad_w (w := [49]) _ 52 rfl fun q hq e => absurd hq (by rw [show q = 4 by omega]; exact hq4)⟩
        · exact ⟨by decide, ns_short (by simp)⟩
        · exact ⟨by decide, bad_w (w := [48, 49]) _ 51 rfl fun q hq e ok => ok.hd (by simp) rfl⟩
      refine ⟨_, gs_name, ?_⟩
      refine run_no0 ((et_cmp ((evp_fn c__law_told (hr.mono (by decide)) (evap_cons (evp_tx [114, 101, 97, 100]) (evap_cons (evp_nat 0) (evap_cons (evp_var 3 rfl) (evap_cons (evp_var 10 rfl) eva_nil)))) ⟨⟨2, 0, p, 0, l⟩, rfl, ⟨by dsimp only; omega, by dsimp only; omega, hpr, hll.1⟩, rfl⟩).is (d' := kd3 1 0 0) (by unfold out39; dsimp only; rw [if_neg (by decide), if_neg (by decide), rdS_none hll.2]; rfl)) (evp_tup (ds := [.list [nD 1, nD 0, nD 0], .bool true]) (evap_cons (evp_new (evnp_lst (ds := [nD 1, nD 0, nD 0]) (evap_cons (evp_nat 1) (evap_cons (evp_nat 0) (evap_cons (evp_nat 0) eva_nil))))) (evap_cons evp_bl eva_nil))) (opd_neD hr.units (by decide +kernel) (by decide +kernel)) (nomark _)).is (c' := false) (by decide +kernel)) ?_
      exact run_nil ⟨_, rfl⟩
    subst eS
    have h13 : PL.say 3 1 = [49, 32, 98, 121, 32, 51] := by decide +kernel
    have hg0 : 0 ≤ ((0 : Nat) : Int) ∧ ((0 : Nat) : Int) < (PL.cnt p n : Int) := by rw [hc]; omega
    have hg1 : 0 ≤ ((1 : Nat) : Int) ∧ ((1 : Nat) : Int) < (p : Int) := by omega
    refine run_no0 (et_w (ew_or (p := false) ((et_cmp ((evp_fn c__law_told (hr.mono (by decide)) (evap_cons (evp_tx [112, 108, 97, 99, 101]) (evap_cons (evp_var 4 rfl) (evap_cons (evp_var 3 rfl) (evap_cons (evp_nat 0) eva_nil)))) ⟨⟨0, n, p, ((0 : Nat) : Int), []⟩, rfl, ⟨by dsimp only; omega, by dsimp only; omega, hpr, by dsimp only; decide⟩, rfl⟩).is (d' := .none) (by unfold out39; dsimp only; rw [if_pos rfl, if_pos hg0])) evp_non opd_notN (nomark _)).is rfl) fun _ => (ew_or1 (p := false) ((et_cmp ((evp_fn c__law_told (hr.mono (by decide)) (evap_cons (evp_tx [102, 105, 114, 115, 116]) (evap_cons (evp_var 9 rfl) (evap_cons (evp_var 3 rfl) (evap_cons (evp_nat 1) eva_nil)))) ⟨⟨1, m, p, ((1 : Nat) : Int), []⟩, rfl, ⟨by dsimp only; omega, by dsimp only; omega, hpr, by dsimp only; decide⟩, rfl⟩).is (d' := .none) (by unfold out39; dsimp only; rw [if_neg (by decide), if_pos rfl, if_pos hg1])) evp_non opd_notN (nomark _)).is rfl)))) ?_
    refine run_no0 ((et_cmp ((evp_fn c__law_told (hr.mono (by decide)) (evap_cons (evp_tx [114, 101, 97, 100]) (evap_cons (evp_nat 0) (evap_cons (evp_var 3 rfl) (evap_cons (evp_tx [49, 32, 98, 121, 32, 51]) eva_nil)))) ⟨⟨2, 0, p, 0, [49, 32, 98, 121, 32, 51]⟩, rfl, ⟨by dsimp only; omega, by dsimp only; omega, hpr, by dsimp only; decide⟩, rfl⟩).is (d' := .none) (by unfold out39; dsimp only; rw [if_neg (by decide), if_neg (by decide), ← h13, rdS_say (p := 3) (n := 1) (by unfold Pr; decide)]; rfl)) evp_non opd_notN (nomark _)).is rfl) ?_
    exact run_nil ⟨b, _, _, _, _, _, _, _, _, _, rfl, by omega⟩
  subst eS
  exact run_retP evp_bl rfl
end
end G
namespace G
open PySem PySem.Spec PyProof.Rows L2 RZ PL
theorem all_mk {l : PySem.W.OpenLaw} {w : World} {K : PySem.W.Frag} {h : Heap} {mg : Str → Option Value} {fa f0 f1 f2 f3 f4 f5 f6 f7 f8 f9 f10 f11 f12 f13 f14 f15 f16 f17 f18 f19 f20 f21 f22 a_ChoiceError a_NoPlace a_NoRest a_NoText : Addr} (X : K.In h) (G : h.Ns mainGlobals mg) (hfa : mg "law" = some (.ref fa))
    {tS t1P t2P t3P t4P : Tok} {aP : Addr} {dP : Option Addr} {nP : Nat} {slP : Array (Option Value)}
    {od0 an0 od1 an1 od2 an2 od3 an3 od4 an4 od5 an5 od6 an6 od7 an7 od8 an8 od9 an9 od10 an10 od11 an11 od12 an12 od13 an13 od14 an14 od15 an15 od16 an16 od17 an17 od18 an18 od19 an19 od20 an20 od21 an21 od22 an22 : Option Addr} {sl0 sl1 sl2 sl3 sl4 sl5 sl6 sl7 sl8 sl9 sl10 sl11 sl12 sl13 sl14 sl15 sl16 sl17 sl18 sl19 sl20 sl21 sl22 : Array (Option Value)} {oc0 kV0 dc0 pm0 cd0 ct0 oc1 kV1 dc1 pm1 cd1 ct1 oc2 kV2 dc2 pm2 cd2 ct2 oc3 kV3 dc3 pm3 cd3 ct3 oc4 kV4 dc4 pm4 cd4 ct4 oc5 kV5 dc5 pm5 cd5 ct5 oc6 kV6 dc6 pm6 cd6 ct6 oc7 kV7 dc7 pm7 cd7 ct7 oc8 kV8 dc8 pm8 cd8 ct8 oc9 kV9 dc9 pm9 cd9 ct9 oc10 kV10 dc10 pm10 cd10 ct10 oc11 kV11 dc11 pm11 cd11 ct11 oc12 kV12 dc12 pm12 cd12 ct12 oc13 kV13 dc13 pm13 cd13 ct13 oc14 kV14 dc14 pm14 cd14 ct14 oc15 kV15 dc15 pm15 cd15 ct15 oc16 kV16 dc16 pm16 cd16 ct16 oc17 kV17 dc17 pm17 cd17 ct17 oc18 kV18 dc18 pm18 cd18 ct18 oc19 kV19 dc19 pm19 cd19 ct19 oc20 kV20 dc20 pm20 cd20 ct20 oc21 kV21 dc21 pm21 cd21 ct21 oc22 kV22 dc22 pm22 cd22 ct22 : Value}
    (a0 : PySem.W.nsIn K mainGlobals "figures" = some (some (.ref f0))) (l0 : K.lookup f0 = some ⟨oc0, od0, .func (PySem.W.fnOf "figures" "figures" (defArgs s_figures) (defBody s_figures) (defScope s_figures) .none kV0 dc0 pm0 an0 cd0 ct0), sl0⟩) (cc0 : PySem.W.codeIn K cd0 "figures" = true) (k0 : PySem.W.keepIn K (.ref f0) = true)
    (a1 : PySem.W.nsIn K mainGlobals "number_of" = some (some (.ref f1))) (l1 : K.lookup f1 = some ⟨oc1, od1, .func (PySem.W.fnOf "number_of" "number_of" (defArgs s_number_of) (defBody s_number_of) (defScope s_number_of) .none kV1 dc1 pm1 an1 cd1 ct1), sl1⟩) (cc1 : PySem.W.codeIn K cd1 "number_of" = true) (k1 : PySem.W.keepIn K (.ref f1) = true)
    (a2 : PySem.W.nsIn K mainGlobals "raised" = some (some (.ref f2))) (l2 : K.lookup f2 = some ⟨oc2, od2, .func (PySem.W.fnOf "raised" "raised" (defArgs s_raised) (defBody s_raised) (defScope s_raised) .none kV2 dc2 pm2 an2 cd2 ct2), sl2⟩) (cc2 : PySem.W.codeIn K cd2 "raised" = true) (k2 : PySem.W.keepIn K (.ref f2) = true)
    (a3 : PySem.W.nsIn K mainGlobals "figure_at" = some (some (.ref f3))) (l3 : K.lookup f3 = some ⟨oc3, od3, .func (PySem.W.fnOf "figure_at" "figure_at" (defArgs s_figure_at) (defBody s_figure_at) (defScope s_figure_at) .none kV3 dc3 pm3 an3 cd3 ct3), sl3⟩) (cc3 : PySem.W.codeIn K cd3 "figure_at" = true) (k3 : PySem.W.keepIn K (.ref f3) = true)
    (a4 : PySem.W.nsIn K mainGlobals "carry_places" = some (some (.ref f4))) (l4 : K.lookup f4 = some ⟨oc4, od4, .func (PySem.W.fnOf "carry_places" "carry_places" (defArgs s_carry_places) (defBody s_carry_places) (defScope s_carry_places) .none kV4 dc4 pm4 an4 cd4 ct4), sl4⟩) (cc4 : PySem.W.codeIn K cd4 "carry_places" = true) (k4 : PySem.W.keepIn K (.ref f4) = true)
    (a5 : PySem.W.nsIn K mainGlobals "choose" = some (some (.ref f5))) (l5 : K.lookup f5 = some ⟨oc5, od5, .func (PySem.W.fnOf "choose" "choose" (defArgs s_choose) (defBody s_choose) (defScope s_choose) .none kV5 dc5 pm5 an5 cd5 ct5), sl5⟩) (cc5 : PySem.W.codeIn K cd5 "choose" = true) (k5 : PySem.W.keepIn K (.ref f5) = true)
    (a6 : PySem.W.nsIn K mainGlobals "rest" = some (some (.ref f6))) (l6 : K.lookup f6 = some ⟨oc6, od6, .func (PySem.W.fnOf "rest" "rest" (defArgs s_rest) (defBody s_rest) (defScope s_rest) .none kV6 dc6 pm6 an6 cd6 ct6), sl6⟩) (cc6 : PySem.W.codeIn K cd6 "rest" = true) (k6 : PySem.W.keepIn K (.ref f6) = true)
    (a7 : PySem.W.nsIn K mainGlobals "is_carry_paper" = some (some (.ref f7))) (l7 : K.lookup f7 = some ⟨oc7, od7, .func (PySem.W.fnOf "is_carry_paper" "is_carry_paper" (defArgs s_is_carry_paper) (defBody s_is_carry_paper) (defScope s_is_carry_paper) .none kV7 dc7 pm7 an7 cd7 ct7), sl7⟩) (cc7 : PySem.W.codeIn K cd7 "is_carry_paper" = true) (k7 : PySem.W.keepIn K (.ref f7) = true)
    (a8 : PySem.W.nsIn K mainGlobals "are_places" = some (some (.ref f8))) (l8 : K.lookup f8 = some ⟨oc8, od8, .func (PySem.W.fnOf "are_places" "are_places" (defArgs s_are_places) (defBody s_are_places) (defScope s_are_places) .none kV8 dc8 pm8 an8 cd8 ct8), sl8⟩) (cc8 : PySem.W.codeIn K cd8 "are_places" = true) (k8 : PySem.W.keepIn K (.ref f8) = true)
    (a9 : PySem.W.nsIn K mainGlobals "count" = some (some (.ref f9))) (l9 : K.lookup f9 = some ⟨oc9, od9, .func (PySem.W.fnOf "count" "count" (defArgs s_count) (defBody s_count) (defScope s_count) .none kV9 dc9 pm9 an9 cd9 ct9), sl9⟩) (cc9 : PySem.W.codeIn K cd9 "count" = true) (k9 : PySem.W.keepIn K (.ref f9) = true)
    (a10 : PySem.W.nsIn K mainGlobals "place_at" = some (some (.ref f10))) (l10 : K.lookup f10 = some ⟨oc10, od10, .func (PySem.W.fnOf "place_at" "place_at" (defArgs s_place_at) (defBody s_place_at) (defScope s_place_at) .none kV10 dc10 pm10 an10 cd10 ct10), sl10⟩) (cc10 : PySem.W.codeIn K cd10 "place_at" = true) (k10 : PySem.W.keepIn K (.ref f10) = true)
    (a11 : PySem.W.nsIn K mainGlobals "first_with" = some (some (.ref f11))) (l11 : K.lookup f11 = some ⟨oc11, od11, .func (PySem.W.fnOf "first_with" "first_with" (defArgs s_first_with) (defBody s_first_with) (defScope s_first_with) .none kV11 dc11 pm11 an11 cd11 ct11), sl11⟩) (cc11 : PySem.W.codeIn K cd11 "first_with" = true) (k11 : PySem.W.keepIn K (.ref f11) = true)
    (a12 : PySem.W.nsIn K mainGlobals "read" = some (some (.ref f12))) (l12 : K.lookup f12 = some ⟨oc12, od12, .func (PySem.W.fnOf "read" "read" (defArgs s_read) (defBody s_read) (defScope s_read) .none kV12 dc12 pm12 an12 cd12 ct12), sl12⟩) (cc12 : PySem.W.codeIn K cd12 "read" = true) (k12 : PySem.W.keepIn K (.ref f12) = true)
    (a13 : PySem.W.nsIn K mainGlobals "_law_draw" = some (some (.ref f13))) (l13 : K.lookup f13 = some ⟨oc13, od13, .func (PySem.W.fnOf "_law_draw" "_law_draw" (defArgs s__law_draw) (defBody s__law_draw) (defScope s__law_draw) .none kV13 dc13 pm13 an13 cd13 ct13), sl13⟩) (cc13 : PySem.W.codeIn K cd13 "_law_draw" = true) (k13 : PySem.W.keepIn K (.ref f13) = true)
    (a14 : PySem.W.nsIn K mainGlobals "_law_pick" = some (some (.ref f14))) (l14 : K.lookup f14 = some ⟨oc14, od14, .func (PySem.W.fnOf "_law_pick" "_law_pick" (defArgs s__law_pick) (defBody s__law_pick) (defScope s__law_pick) .none kV14 dc14 pm14 an14 cd14 ct14), sl14⟩) (cc14 : PySem.W.codeIn K cd14 "_law_pick" = true) (k14 : PySem.W.keepIn K (.ref f14) = true)
    (a15 : PySem.W.nsIn K mainGlobals "_law_prime" = some (some (.ref f15))) (l15 : K.lookup f15 = some ⟨oc15, od15, .func (PySem.W.fnOf "_law_prime" "_law_prime" (defArgs s__law_prime) (defBody s__law_prime) (defScope s__law_prime) .none kV15 dc15 pm15 an15 cd15 ct15), sl15⟩) (cc15 : PySem.W.codeIn K cd15 "_law_prime" = true) (k15 : PySem.W.keepIn K (.ref f15) = true)
    (a16 : PySem.W.nsIn K mainGlobals "_law_number" = some (some (.ref f16))) (l16 : K.lookup f16 = some ⟨oc16, od16, .func (PySem.W.fnOf "_law_number" "_law_number" (defArgs s__law_number) (defBody s__law_number) (defScope s__law_number) .none kV16 dc16 pm16 an16 cd16 ct16), sl16⟩) (cc16 : PySem.W.codeIn K cd16 "_law_number" = true) (k16 : PySem.W.keepIn K (.ref f16) = true)
    (a17 : PySem.W.nsIn K mainGlobals "_law_raised" = some (some (.ref f17))) (l17 : K.lookup f17 = some ⟨oc17, od17, .func (PySem.W.fnOf "_law_raised" "_law_raised" (defArgs s__law_raised) (defBody s__law_raised) (defScope s__law_raised) .none kV17 dc17 pm17 an17 cd17 ct17), sl17⟩) (cc17 : PySem.W.codeIn K cd17 "_law_raised" = true) (k17 : PySem.W.keepIn K (.ref f17) = true)
    (a18 : PySem.W.nsIn K mainGlobals "_law_bent" = some (some (.ref f18))) (l18 : K.lookup f18 = some ⟨oc18, od18, .func (PySem.W.fnOf "_law_bent" "_law_bent" (defArgs s__law_bent) (defBody s__law_bent) (defScope s__law_bent) .none kV18 dc18 pm18 an18 cd18 ct18), sl18⟩) (cc18 : PySem.W.codeIn K cd18 "_law_bent" = true) (k18 : PySem.W.keepIn K (.ref f18) = true)
    (a19 : PySem.W.nsIn K mainGlobals "_law_same" = some (some (.ref f19))) (l19 : K.lookup f19 = some ⟨oc19, od19, .func (PySem.W.fnOf "_law_same" "_law_same" (defArgs s__law_same) (defBody s__law_same) (defScope s__law_same) .none kV19 dc19 pm19 an19 cd19 ct19), sl19⟩) (cc19 : PySem.W.codeIn K cd19 "_law_same" = true) (k19 : PySem.W.keepIn K (.ref f19) = true)
    (a20 : PySem.W.nsIn K mainGlobals "_law_kind" = some (some (.ref f20))) (l20 : K.lookup f20 = some ⟨oc20, od20, .func (PySem.W.fnOf "_law_kind" "_law_kind" (defArgs s__law_kind) (defBody s__law_kind) (defScope s__law_kind) .none kV20 dc20 pm20 an20 cd20 ct20), sl20⟩) (cc20 : PySem.W.codeIn K cd20 "_law_kind" = true) (k20 : PySem.W.keepIn K (.ref f20) = true)
    (a21 : PySem.W.nsIn K mainGlobals "_law_told" = some (some (.ref f21))) (l21 : K.lookup f21 = some ⟨oc21, od21, .func (PySem.W.fnOf "_law_told" "_law_told" (defArgs s__law_told) (defBody s__law_told) (defScope s__law_told) .none kV21 dc21 pm21 an21 cd21 ct21), sl21⟩) (cc21 : PySem.W.codeIn K cd21 "_law_told" = true) (k21 : PySem.W.keepIn K (.ref f21) = true)
    (a22 : PySem.W.nsIn K mainGlobals "law" = some (some (.ref f22))) (l22 : K.lookup f22 = some ⟨oc22, od22, .func (PySem.W.fnOf "law" "law" (defArgs s_law) (defBody s_law) (defScope s_law) .none kV22 dc22 pm22 an22 cd22 ct22), sl22⟩) (cc22 : PySem.W.codeIn K cd22 "law" = true) (k22 : PySem.W.keepIn K (.ref f22) = true)
    (z_len : PySem.W.nsIn K mainGlobals "len" = some none)
    (z_range : PySem.W.nsIn K mainGlobals "range" = some none)
    (z_sum : PySem.W.nsIn K mainGlobals "sum" = some none)
    (z_tuple : PySem.W.nsIn K mainGlobals "tuple" = some none)
    (z_list : PySem.W.nsIn K mainGlobals "list" = some none)
    (z_min : PySem.W.nsIn K mainGlobals "min" = some none)
    (z_max : PySem.W.nsIn K mainGlobals "max" = some none)
    (z_isinstance : PySem.W.nsIn K mainGlobals "isinstance" = some none)
    (z_int : PySem.W.nsIn K mainGlobals "int" = some none)
    (z_str : PySem.W.nsIn K mainGlobals "str" = some none)
    (z_bool : PySem.W.nsIn K mainGlobals "bool" = some none)
    (z_all : PySem.W.nsIn K mainGlobals "all" = some none)
    (z_any : PySem.W.nsIn K mainGlobals "any" = some none)
    (z_zip : PySem.W.nsIn K mainGlobals "zip" = some none)
    (z_enumerate : PySem.W.nsIn K mainGlobals "enumerate" = some none)
    (z_sorted : PySem.W.nsIn K mainGlobals "sorted" = some none)
    (z_dict : PySem.W.nsIn K mainGlobals "dict" = some none)
    (z_ValueError : PySem.W.nsIn K mainGlobals "ValueError" = some none)
    (ga_ChoiceError : PySem.W.nsIn K mainGlobals "ChoiceError" = some (some (.ref a_ChoiceError))) (gx_ChoiceError : PySem.W.excIn K a_ChoiceError ([.type "ValueError", .type "Exception", .type "BaseException", .type "object"] : List Value) "ValueError.__new__" = true) (gk_ChoiceError : PySem.W.keepIn K (.ref a_ChoiceError) = true) (gb_ChoiceError : PySem.W.subIn K (.ref a_ChoiceError) (.type "BaseException") = some true) (gi_ChoiceError : PySem.W.isClsIn K a_ChoiceError = true) (gt_ChoiceError : PySem.W.typeIn K (.ref a_ChoiceError) = some (.type "type")) (gs_ChoiceError : PySem.W.subIn K (.ref a_ChoiceError) (.ref a_ChoiceError) = some true)
    (ga_NoPlace : PySem.W.nsIn K mainGlobals "NoPlace" = some (some (.ref a_NoPlace))) (gx_NoPlace : PySem.W.excIn K a_NoPlace ([.type "ValueError", .type "Exception", .type "BaseException", .type "object"] : List Value) "ValueError.__new__" = true) (gk_NoPlace : PySem.W.keepIn K (.ref a_NoPlace) = true) (gb_NoPlace : PySem.W.subIn K (.ref a_NoPlace) (.type "BaseException") = some true) (gi_NoPlace : PySem.W.isClsIn K a_NoPlace = true) (gt_NoPlace : PySem.W.typeIn K (.ref a_NoPlace) = some (.type "type")) (gs_NoPlace : PySem.W.subIn K (.ref a_NoPlace) (.ref a_NoPlace) = some true)
    (ga_NoRest : PySem.W.nsIn K mainGlobals "NoRest" = some (some (.ref a_NoRest))) (gx_NoRest : PySem.W.excIn K a_NoRest ([.type "ValueError", .type "Exception", .type "BaseException", .type "object"] : List Value) "ValueError.__new__" = true) (gk_NoRest : PySem.W.keepIn K (.ref a_NoRest) = true) (gb_NoRest : PySem.W.subIn K (.ref a_NoRest) (.type "BaseException") = some true) (gi_NoRest : PySem.W.isClsIn K a_NoRest = true) (gt_NoRest : PySem.W.typeIn K (.ref a_NoRest) = some (.type "type")) (gs_NoRest : PySem.W.subIn K (.ref a_NoRest) (.ref a_NoRest) = some true)
    (ga_NoText : PySem.W.nsIn K mainGlobals "NoText" = some (some (.ref a_NoText))) (gx_NoText : PySem.W.excIn K a_NoText ([.type "ValueError", .type "Exception", .type "BaseException", .type "object"] : List Value) "ValueError.__new__" = true) (gk_NoText : PySem.W.keepIn K (.ref a_NoText) = true) (gb_NoText : PySem.W.subIn K (.ref a_NoText) (.type "BaseException") = some true) (gi_NoText : PySem.W.isClsIn K a_NoText = true) (gt_NoText : PySem.W.typeIn K (.ref a_NoText) = some (.type "type")) (gs_NoText : PySem.W.subIn K (.ref a_NoText) (.ref a_NoText) = some true)
    (xn : PySem.W.specialIn K (.builtin "object.__class__") "__get__" = some (some (.builtin "getset_descriptor.__get__"))) (xt : PySem.W.takesIn K (.builtin "object.__class__") = some true)
    (xa_NoPlace : PySem.W.findIn K (.ref a_NoPlace) "__getattribute__" = some (some (.builtin "BaseException.__getattribute__"))) (xb_NoPlace : PySem.W.findIn K (.ref a_NoPlace) "__getattr__" = some none) (xd_NoPlace : PySem.W.hasDictIn K a_NoPlace = true) (xe_NoPlace : PySem.W.findIn K (.ref a_NoPlace) "__class__" = some (some (.builtin "object.__class__"))) (xm_NoPlace : PySem.W.mroIn K a_NoPlace (.type "object") = some true) (xu_NoPlace : PySem.W.subIn K (.ref a_NoPlace) (.ref a_ChoiceError) = some true) (xv_NoPlace : PySem.W.subIn K (.ref a_NoPlace) (.type "ValueError") = some true)
    (xa_NoRest : PySem.W.findIn K (.ref a_NoRest) "__getattribute__" = some (some (.builtin "BaseException.__getattribute__"))) (xb_NoRest : PySem.W.findIn K (.ref a_NoRest) "__getattr__" = some none) (xd_NoRest : PySem.W.hasDictIn K a_NoRest = true) (xe_NoRest : PySem.W.findIn K (.ref a_NoRest) "__class__" = some (some (.builtin "object.__class__"))) (xm_NoRest : PySem.W.mroIn K a_NoRest (.type "object") = some true) (xu_NoRest : PySem.W.subIn K (.ref a_NoRest) (.ref a_ChoiceError) = some true) (xv_NoRest : PySem.W.subIn K (.ref a_NoRest) (.type "ValueError") = some true)
    (xa_NoText : PySem.W.findIn K (.ref a_NoText) "__getattribute__" = some (some (.builtin "BaseException.__getattribute__"))) (xb_NoText : PySem.W.findIn K (.ref a_NoText) "__getattr__" = some none) (xd_NoText : PySem.W.hasDictIn K a_NoText = true) (xe_NoText : PySem.W.findIn K (.ref a_NoText) "__class__" = some (some (.builtin "object.__class__"))) (xm_NoText : PySem.W.mroIn K a_NoText (.type "object") = some true) (xu_NoText : PySem.W.subIn K (.ref a_NoText) (.ref a_ChoiceError) = some true) (xv_NoText : PySem.W.subIn K (.ref a_NoText) (.type "ValueError") = some true)
    (xp_NoPlace_NoRest : PySem.W.subIn K (.ref a_NoPlace) (.ref a_NoRest) = some false)
    (xp_NoPlace_NoText : PySem.W.subIn K (.ref a_NoPlace) (.ref a_NoText) = some false)
    (xp_NoRest_NoPlace : PySem.W.subIn K (.ref a_NoRest) (.ref a_NoPlace) = some false)
    (xp_NoRest_NoText : PySem.W.subIn K (.ref a_NoRest) (.ref a_NoText) = some false)
    (xp_NoText_NoPlace : PySem.W.subIn K (.ref a_NoText) (.ref a_NoPlace) = some false)
    (xp_NoText_NoRest : PySem.W.subIn K (.ref a_NoText) (.ref a_NoRest) = some false)
    (gS : PySem.W.nsIn K mainGlobals "SIGNS" = some (some (.str "0123456" tS))) (gP : PySem.W.nsIn K mainGlobals "PRIMES" = some (some (.ref aP))) (lP : K.lookup aP = some ⟨.type "tuple", dP, .seq #[.str "2" t1P, .str "3" t2P, .str "5" t3P, .str "7" t4P] nP, slP⟩) :
    ∃ fd : FuncData, (∀ (s : Shared) (v : Value), BindsTo s fd ⟨[v], []⟩ [("_law_script", v)]) ∧ ∀ base : Heap, K.In base → base.Ns mainGlobals mg → FnOk l.prog w K mg base CX0 6 fa fd ["_law_script"] (spLaw K) := by
  have e := hfa.symm.trans (PySem.W.mg_of X G a22)
  cases e
  have bi : BI mg := ⟨PySem.W.mg_none_of X G z_len, PySem.W.mg_none_of X G z_range, PySem.W.mg_none_of X G z_sum, PySem.W.mg_none_of X G z_tuple, PySem.W.mg_none_of X G z_list, PySem.W.mg_none_of X G z_min, PySem.W.mg_none_of X G z_max, PySem.W.mg_none_of X G z_isinstance, PySem.W.mg_none_of X G z_int, PySem.W.mg_none_of X G z_str, PySem.W.mg_none_of X G z_bool, PySem.W.mg_none_of X G z_all, PySem.W.mg_none_of X G z_any, PySem.W.mg_none_of X G z_zip, PySem.W.mg_none_of X G z_enumerate, PySem.W.mg_none_of X G z_sorted, PySem.W.mg_none_of X G z_dict, PySem.W.mg_none_of X G z_ValueError⟩
  have D0 : DefAt K mg "figures" s_figures ["number", "prime"] := ⟨⟨f0, _, fun_mk (st := s_figures) l0 cc0 k0, PySem.W.mg_of X G a0, (fun_mk (st := s_figures) l0 cc0 k0).binds (ps := ["number", "prime"]) fun _ _ _ _ _ _ us hl => match us, hl with | [_, _], _ => rfl⟩⟩
  have D1 : DefAt K mg "number_of" s_number_of ["some", "prime"] := ⟨⟨f1, _, fun_mk (st := s_number_of) l1 cc1 k1, PySem.W.mg_of X G a1, (fun_mk (st := s_number_of) l1 cc1 k1).binds (ps := ["some", "prime"]) fun _ _ _ _ _ _ us hl => match us, hl with | [_, _], _ => rfl⟩⟩
  have D2 : DefAt K mg "raised" s_raised ["number", "times"] := ⟨⟨f2, _, fun_mk (st := s_raised) l2 cc2 k2, PySem.W.mg_of X G a2, (fun_mk (st := s_raised) l2 cc2 k2).binds (ps := ["number", "times"]) fun _ _ _ _ _ _ us hl => match us, hl with | [_, _], _ => rfl⟩⟩
  have D3 : DefAt K mg "figure_at" s_figure_at ["number", "prime", "place"] := ⟨⟨f3, _, fun_mk (st := s_figure_at) l3 cc3 k3, PySem.W.mg_of X G a3, (fun_mk (st := s_figure_at) l3 cc3 k3).binds (ps := ["number", "prime", "place"]) fun _ _ _ _ _ _ us hl => match us, hl with | [_, _, _], _ => rfl⟩⟩
  have D4 : DefAt K mg "carry_places" s_carry_places ["one", "other", "prime"] := ⟨⟨f4, _, fun_mk (st := s_carry_places) l4 cc4 k4, PySem.W.mg_of X G a4, (fun_mk (st := s_carry_places) l4 cc4 k4).binds (ps := ["one", "other", "prime"]) fun _ _ _ _ _ _ us hl => match us, hl with | [_, _, _], _ => rfl⟩⟩
  have D5 : DefAt K mg "choose" s_choose ["many", "some"] := ⟨⟨f5, _, fun_mk (st := s_choose) l5 cc5 k5, PySem.W.mg_of X G a5, (fun_mk (st := s_choose) l5 cc5 k5).binds (ps := ["many", "some"]) fun _ _ _ _ _ _ us hl => match us, hl with | [_, _], _ => rfl⟩⟩
  have D6 : DefAt K mg "rest" s_rest ["many", "some", "prime"] := ⟨⟨f6, _, fun_mk (st := s_rest) l6 cc6 k6, PySem.W.mg_of X G a6, (fun_mk (st := s_rest) l6 cc6 k6).binds (ps := ["many", "some", "prime"]) fun _ _ _ _ _ _ us hl => match us, hl with | [_, _, _], _ => rfl⟩⟩
  have D7 : DefAt K mg "is_carry_paper" s_is_carry_paper ["many", "some", "prime", "thing"] := ⟨⟨f7, _, fun_mk (st := s_is_carry_paper) l7 cc7 k7, PySem.W.mg_of X G a7, (fun_mk (st := s_is_carry_paper) l7 cc7 k7).binds (ps := ["many", "some", "prime", "thing"]) fun _ _ _ _ _ _ us hl => match us, hl with | [_, _, _, _], _ => rfl⟩⟩
  have D8 : DefAt K mg "are_places" s_are_places ["thing"] := ⟨⟨f8, _, fun_mk (st := s_are_places) l8 cc8 k8, PySem.W.mg_of X G a8, (fun_mk (st := s_are_places) l8 cc8 k8).binds (ps := ["thing"]) fun _ _ _ _ _ _ us hl => match us, hl with | [_], _ => rfl⟩⟩
  have D9 : DefAt K mg "count" s_count ["many", "prime"] := ⟨⟨f9, _, fun_mk (st := s_count) l9 cc9 k9, PySem.W.mg_of X G a9, (fun_mk (st := s_count) l9 cc9 k9).binds (ps := ["many", "prime"]) fun _ _ _ _ _ _ us hl => match us, hl with | [_, _], _ => rfl⟩⟩
  have D10 : DefAt K mg "place_at" s_place_at ["many", "prime", "number"] := ⟨⟨f10, _, fun_mk (st := s_place_at) l10 cc10 k10, PySem.W.mg_of X G a10, (fun_mk (st := s_place_at) l10 cc10 k10).binds (ps := ["many", "prime", "number"]) fun _ _ _ _ _ _ us hl => match us, hl with | [_, _, _], _ => rfl⟩⟩
  have D11 : DefAt K mg "first_with" s_first_with ["prime", "told", "many"] := ⟨⟨f11, _, fun_mk (st := s_first_with) l11 cc11 k11, PySem.W.mg_of X G a11, (fun_mk (st := s_first_with) l11 cc11 k11).binds (ps := ["prime", "told", "many"]) fun _ _ _ _ _ _ us hl => match us, hl with | [_, _, _], _ => rfl⟩⟩
  have D12 : DefAt K mg "read" s_read ["text"] := ⟨⟨f12, _, fun_mk (st := s_read) l12 cc12 k12, PySem.W.mg_of X G a12, (fun_mk (st := s_read) l12 cc12 k12).binds (ps := ["text"]) fun _ _ _ _ _ _ us hl => match us, hl with | [_], _ => rfl⟩⟩
  have D13 : DefAt K mg "_law_draw" s__law_draw ["_law_script", "_law_town", "_law_many"] := ⟨⟨f13, _, fun_mk (st := s__law_draw) l13 cc13 k13, PySem.W.mg_of X G a13, (fun_mk (st := s__law_draw) l13 cc13 k13).binds (ps := ["_law_script", "_law_town", "_law_many"]) fun _ _ _ _ _ _ us hl => match us, hl with | [_, _, _], _ => rfl⟩⟩
  have D14 : DefAt K mg "_law_pick" s__law_pick ["_law_script", "_law_town", "_law_some"] := ⟨⟨f14, _, fun_mk (st := s__law_pick) l14 cc14 k14, PySem.W.mg_of X G a14, (fun_mk (st := s__law_pick) l14 cc14 k14).binds (ps := ["_law_script", "_law_town", "_law_some"]) fun _ _ _ _ _ _ us hl => match us, hl with | [_, _, _], _ => rfl⟩⟩
  have D15 : DefAt K mg "_law_prime" s__law_prime ["_law_script", "_law_town"] := ⟨⟨f15, _, fun_mk (st := s__law_prime) l15 cc15 k15, PySem.W.mg_of X G a15, (fun_mk (st := s__law_prime) l15 cc15 k15).binds (ps := ["_law_script", "_law_town"]) fun _ _ _ _ _ _ us hl => match us, hl with | [_, _], _ => rfl⟩⟩
  have D16 : DefAt K mg "_law_number" s__law_number ["_law_script", "_law_town", "_law_prime_here"] := ⟨⟨f16, _, fun_mk (st := s__law_number) l16 cc16 k16, PySem.W.mg_of X G a16, (fun_mk (st := s__law_number) l16 cc16 k16).binds (ps := ["_law_script", "_law_town", "_law_prime_here"]) fun _ _ _ _ _ _ us hl => match us, hl with | [_, _, _], _ => rfl⟩⟩
  have D17 : DefAt K mg "_law_raised" s__law_raised ["_law_number_here", "_law_many"] := ⟨⟨f17, _, fun_mk (st := s__law_raised) l17 cc17 k17, PySem.W.mg_of X G a17, (fun_mk (st := s__law_raised) l17 cc17 k17).binds (ps := ["_law_number_here", "_law_many"]) fun _ _ _ _ _ _ us hl => match us, hl with | [_, _], _ => rfl⟩⟩
  have D18 : DefAt K mg "_law_bent" s__law_bent ["_law_places"] := ⟨⟨f18, _, fun_mk (st := s__law_bent) l18 cc18 k18, PySem.W.mg_of X G a18, (fun_mk (st := s__law_bent) l18 cc18 k18).binds (ps := ["_law_places"]) fun _ _ _ _ _ _ us hl => match us, hl with | [_], _ => rfl⟩⟩
  have D19 : DefAt K mg "_law_same" s__law_same ["_law_thing", "_law_places"] := ⟨⟨f19, _, fun_mk (st := s__law_same) l19 cc19 k19, PySem.W.mg_of X G a19, (fun_mk (st := s__law_same) l19 cc19 k19).binds (ps := ["_law_thing", "_law_places"]) fun _ _ _ _ _ _ us hl => match us, hl with | [_, _], _ => rfl⟩⟩
  have D20 : DefAt K mg "_law_kind" s__law_kind ["_law_error"] := ⟨⟨f20, _, fun_mk (st := s__law_kind) l20 cc20 k20, PySem.W.mg_of X G a20, (fun_mk (st := s__law_kind) l20 cc20 k20).binds (ps := ["_law_error"]) fun _ _ _ _ _ _ us hl => match us, hl with | [_], _ => rfl⟩⟩
  have D21 : DefAt K mg "_law_told" s__law_told ["_law_word", "_law_one", "_law_prime_here", "_law_number_here"] := ⟨⟨f21, _, fun_mk (st := s__law_told) l21 cc21 k21, PySem.W.mg_of X G a21, (fun_mk (st := s__law_told) l21 cc21 k21).binds (ps := ["_law_word", "_law_one", "_law_prime_here", "_law_number_here"]) fun _ _ _ _ _ _ us hl => match us, hl with | [_, _, _, _], _ => rfl⟩⟩
  refine ⟨PySem.W.fnOf "law" "law" (defArgs s_law) (defBody s_law) (defScope s_law) .none kV22 dc22 pm22 an22 cd22 ct22, fun s v => .of_eq rfl, fun base _ _ => ?_⟩
  have ec_ChoiceError : ExC K mg "ChoiceError" a_ChoiceError := ⟨gx_ChoiceError, PySem.W.mg_of X G ga_ChoiceError, gk_ChoiceError, gb_ChoiceError, gt_ChoiceError, PL.exm_of gb_ChoiceError gi_ChoiceError gt_ChoiceError gs_ChoiceError⟩
  have ec_NoPlace : ExC K mg "NoPlace" a_NoPlace := ⟨gx_NoPlace, PySem.W.mg_of X G ga_NoPlace, gk_NoPlace, gb_NoPlace, gt_NoPlace, PL.exm_of gb_NoPlace gi_NoPlace gt_NoPlace gs_NoPlace⟩
  have ec_NoRest : ExC K mg "NoRest" a_NoRest := ⟨gx_NoRest, PySem.W.mg_of X G ga_NoRest, gk_NoRest, gb_NoRest, gt_NoRest, PL.exm_of gb_NoRest gi_NoRest gt_NoRest gs_NoRest⟩
  have ec_NoText : ExC K mg "NoText" a_NoText := ⟨gx_NoText, PySem.W.mg_of X G ga_NoText, gk_NoText, gb_NoText, gt_NoText, PL.exm_of gb_NoText gi_NoText gt_NoText gs_NoText⟩
  have xf4 : XF4 K a_NoPlace a_NoRest a_NoText a_ChoiceError := xf4_mk ⟨xa_NoPlace, xb_NoPlace, gb_NoPlace, xd_NoPlace, xe_NoPlace, xn, xt, xm_NoPlace, xu_NoPlace, xv_NoPlace, gs_NoPlace, gi_NoPlace, gt_NoPlace⟩ ⟨xa_NoRest, xb_NoRest, gb_NoRest, xd_NoRest, xe_NoRest, xn, xt, xm_NoRest, xu_NoRest, xv_NoRest, gs_NoRest, gi_NoRest, gt_NoRest⟩ ⟨xa_NoText, xb_NoText, gb_NoText, xd_NoText, xe_NoText, xn, xt, xm_NoText, xu_NoText, xv_NoText, gs_NoText, gi_NoText, gt_NoText⟩ gb_ChoiceError gi_ChoiceError gt_ChoiceError gs_ChoiceError xp_NoPlace_NoRest xp_NoPlace_NoText xp_NoRest_NoPlace xp_NoRest_NoText xp_NoText_NoPlace xp_NoText_NoRest
  have gl_texts : GT K mg := ⟨⟨tS, PySem.W.mg_of X G gS⟩, aP, PySem.W.mg_of X G gP, _, _, _, lP, rfl, rfl, (by show 4 ≤ sizeLine; decide), .cons ⟨t1P, rfl⟩ (.cons ⟨t2P, rfl⟩ (.cons ⟨t3P, rfl⟩ (.cons ⟨t4P, rfl⟩ .nil)))⟩
  have c_figures := ok_figures (P := l.prog) (w := w) (base := base) D0 bi  
  have c_number_of := ok_number_of (P := l.prog) (w := w) (base := base) D1 bi  
  have c_raised := ok_raised (P := l.prog) (w := w) (base := base) D2 bi  
  have c_figure_at := ok_figure_at (P := l.prog) (w := w) (base := base) D3 bi  c_raised
  have c_carry_places := ok_carry_places (P := l.prog) (w := w) (base := base) D4 bi  
  have c_choose := ok_choose (P := l.prog) (w := w) (base := base) D5 bi  
  have c_rest := ok_rest (P := l.prog) (w := w) (base := base) D6 bi  c_figures c_choose c_figure_at
  have c_are_places := ok_are_places (P := l.prog) (w := w) (base := base) D8 bi  
  have c_is_carry_paper := ok_is_carry_paper (P := l.prog) (w := w) (base := base) D7 bi  c_are_places c_carry_places
  have c_count := ok_count (P := l.prog) (w := w) (base := base) D9 bi  c_figures
  have c_place_at := ok_place_at (P := l.prog) (w := w) (base := base) D10 bi  c_figures c_number_of c_count
  have cx_place_at := okx_place_at (P := l.prog) (w := w) (base := base) D10 bi  ec_NoPlace c_figures c_number_of c_count
  have c_first_with := ok_first_with (P := l.prog) (w := w) (base := base) D11 bi  c_rest
  have cx_first_with := okx_first_with (P := l.prog) (w := w) (base := base) D11 bi  ec_NoRest c_rest
  have c_read := ok_read (P := l.prog) (w := w) (base := base) D12 bi  gl_texts c_number_of
  have cx_read := okx_read (P := l.prog) (w := w) (base := base) D12 bi  gl_texts ec_NoText c_number_of
  have c__law_draw := ok__law_draw (P := l.prog) (w := w) (base := base) D13 bi  
  have c__law_pick := ok__law_pick (P := l.prog) (w := w) (base := base) D14 bi  c__law_draw
  have c__law_prime := ok__law_prime (P := l.prog) (w := w) (base := base) D15 bi  c__law_pick
  have c__law_raised := ok__law_raised (P := l.prog) (w := w) (base := base) D17 bi  
  have c__law_number := ok__law_number (P := l.prog) (w := w) (base := base) D16 bi  c__law_pick c__law_draw c__law_raised
  have c__law_bent := ok__law_bent (P := l.prog) (w := w) (base := base) D18 bi  
  have c__law_same := ok__law_same (P := l.prog) (w := w) (base := base) D19 bi  
  have c__law_kind := ok__law_kind (P := l.prog) (w := w) (base := base) D20 bi  ec_NoPlace ec_NoRest ec_NoText ec_ChoiceError xf4 
  have c__law_told := ok__law_told (P := l.prog) (w := w) (base := base) D21 bi  ec_NoPlace ec_NoRest ec_NoText ec_ChoiceError xf4 cx_place_at cx_first_with cx_read c_place_at c__law_kind c_first_with c_read
  exact ok_law (fun_mk (st := s_law) l22 cc22 k22) bi  c__law_prime c__law_number c__law_draw c_carry_places c_is_carry_paper c__law_bent c_count c__law_told c__law_same
end G
open PySem PySem.W PyProof.Rows
set_option maxHeartbeats 0 in
theorem PySem.Challenge.cw_primechoices_k39_whole_papers_and_refusa_holds : PySem.Challenge.rw_primechoices_k39_whole_papers_and_refusa.Holds := by
  w_on; o_law; k_head; (case hw => w_witness2)
  k_fill
  refine L2.walk_of (l := PySem.Challenge.rw_primechoices_k39_whole_papers_and_refusa) (n := 63) (k := 6) (x := "_law_script") (CX := fun _ => L2.CX0) (sp := fun w => PL.spLaw _) rfl (by decide) rfl ⟨rfl, by decide, by decide⟩ (fun w h Y => PySem.W.kIn_of Y) ?F (fun _ _ a ns hl _ hS => ⟨a, ns, rfl, hS, hl, fun _ => rfl⟩) (fun _ _ _ _ _ h => h)
  case F =>
    intro w mg fa h KX GN hmg
    refine' G.all_mk KX GN hmg ?a0 ?l0 ?cc0 ?k0 ?a1 ?l1 ?cc1 ?k1 ?a2 ?l2 ?cc2 ?k2 ?a3 ?l3 ?cc3 ?k3 ?a4 ?l4 ?cc4 ?k4 ?a5 ?l5 ?cc5 ?k5 ?a6 ?l6 ?cc6 ?k6 ?a7 ?l7 ?cc7 ?k7 ?a8 ?l8 ?cc8 ?k8 ?a9 ?l9 ?cc9 ?k9 ?a10 ?l10 ?cc10 ?k10 ?a11 ?l11 ?cc11 ?k11 ?a12 ?l12 ?cc12 ?k12 ?a13 ?l13 ?cc13 ?k13 ?a14 ?l14 ?cc14 ?k14 ?a15 ?l15 ?cc15 ?k15 ?a16 ?l16 ?cc16 ?k16 ?a17 ?l17 ?cc17 ?k17 ?a18 ?l18 ?cc18 ?k18 ?a19 ?l19 ?cc19 ?k19 ?a20 ?l20 ?cc20 ?k20 ?a21 ?l21 ?cc21 ?k21 ?a22 ?l22 ?cc22 ?k22 ?z_len ?z_range ?z_sum ?z_tuple ?z_list ?z_min ?z_max ?z_isinstance ?z_int ?z_str ?z_bool ?z_all ?z_any ?z_zip ?z_enumerate ?z_sorted ?z_dict ?z_ValueError ?ga_ChoiceError ?gx_ChoiceError ?gk_ChoiceError ?gb_ChoiceError ?gi_ChoiceError ?gt_ChoiceError ?gs_ChoiceError ?ga_NoPlace ?gx_NoPlace ?gk_NoPlace ?gb_NoPlace ?gi_NoPlace ?gt_NoPlace ?gs_NoPlace ?ga_NoRest ?gx_NoRest ?gk_NoRest ?gb_NoRest ?gi_NoRest ?gt_NoRest ?gs_NoRest ?ga_NoText ?gx_NoText ?gk_NoText ?gb_NoText ?gi_NoText ?gt_NoText ?gs_NoText ?xn ?xt ?xa_NoPlace ?xb_NoPlace ?xd_NoPlace ?xe_NoPlace ?xm_NoPlace ?xu_NoPlace ?xv_NoPlace ?xa_NoRest ?xb_NoRest ?xd_NoRest ?xe_NoRest ?xm_NoRest ?xu_NoRest ?xv_NoRest ?xa_NoText ?xb_NoText ?xd_NoText ?xe_NoText ?xm_NoText ?xu_NoText ?xv_NoText ?xp_NoPlace_NoRest ?xp_NoPlace_NoText ?xp_NoRest_NoPlace ?xp_NoRest_NoText ?xp_NoText_NoPlace ?xp_NoText_NoRest ?gS ?gP ?lP
    (case a0 => k_is); (case l0 => k_is); (case cc0 => k_is); (case k0 => k_is); (case a1 => k_is); (case l1 => k_is); (case cc1 => k_is); (case k1 => k_is); (case a2 => k_is); (case l2 => k_is); (case cc2 => k_is); (case k2 => k_is); (case a3 => k_is); (case l3 => k_is); (case cc3 => k_is); (case k3 => k_is); (case a4 => k_is); (case l4 => k_is); (case cc4 => k_is); (case k4 => k_is); (case a5 => k_is); (case l5 => k_is); (case cc5 => k_is); (case k5 => k_is); (case a6 => k_is); (case l6 => k_is); (case cc6 => k_is); (case k6 => k_is); (case a7 => k_is); (case l7 => k_is); (case cc7 => k_is); (case k7 => k_is); (case a8 => k_is); (case l8 => k_is); (case cc8 => k_is); (case k8 => k_is); (case a9 => k_is); (case l9 => k_is); (case cc9 => k_is); (case k9 => k_is); (case a10 => k_is); (case l10 => k_is); (case cc10 => k_is); (case k10 => k_is); (case a11 => k_is); (case l11 => k_is); (case cc11 => k_is); (case k11 => k_is); (case a12 => k_is); (case l12 => k_is); (case cc12 => k_is); (case k12 => k_is); (case a13 => k_is); (case l13 => k_is); (case cc13 => k_is); (case k13 => k_is); (case a14 => k_is); (case l14 => k_is); (case cc14 => k_is); (case k14 => k_is); (case a15 => k_is); (case l15 => k_is); (case cc15 => k_is); (case k15 => k_is); (case a16 => k_is); (case l16 => k_is); (case cc16 => k_is); (case k16 => k_is); (case a17 => k_is); (case l17 => k_is); (case cc17 => k_is); (case k17 => k_is); (case a18 => k_is); (case l18 => k_is); (case cc18 => k_is); (case k18 => k_is); (case a19 => k_is); (case l19 => k_is); (case cc19 => k_is); (case k19 => k_is); (case a20 => k_is); (case l20 => k_is); (case cc20 => k_is); (case k20 => k_is); (case a21 => k_is); (case l21 => k_is); (case cc21 => k_is); (case k21 => k_is); (case a22 => k_is); (case l22 => k_is); (case cc22 => k_is); (case k22 => k_is); (case z_len => k_is); (case z_range => k_is); (case z_sum => k_is); (case z_tuple => k_is); (case z_list => k_is); (case z_min => k_is); (case z_max => k_is); (case z_isinstance => k_is); (case z_int => k_is); (case z_str => k_is); (case z_bool => k_is); (case z_all => k_is); (case z_any => k_is); (case z_zip => k_is); (case z_enumerate => k_is); (case z_sorted => k_is); (case z_dict => k_is); (case z_ValueError => k_is); (case ga_ChoiceError => k_is); (case gx_ChoiceError => k_exc); (case gk_ChoiceError => k_is); (case gb_ChoiceError => k_is); (case gi_ChoiceError => k_is); (case gt_ChoiceError => k_is); (case gs_ChoiceError => k_is); (case ga_NoPlace => k_is); (case gx_NoPlace => k_exc); (case gk_NoPlace => k_is); (case gb_NoPlace => k_is); (case gi_NoPlace => k_is); (case gt_NoPlace => k_is); (case gs_NoPlace => k_is); (case ga_NoRest => k_is); (case gx_NoRest => k_exc); (case gk_NoRest => k_is); (case gb_NoRest => k_is); (case gi_NoRest => k_is); (case gt_NoRest => k_is); (case gs_NoRest => k_is); (case ga_NoText => k_is); (case gx_NoText => k_exc); (case gk_NoText => k_is); (case gb_NoText => k_is); (case gi_NoText => k_is); (case gt_NoText => k_is); (case gs_NoText => k_is); (case xn => k_is); (case xt => k_is); (case xa_NoPlace => k_is); (case xb_NoPlace => k_is); (case xd_NoPlace => k_is); (case xe_NoPlace => k_is); (case xm_NoPlace => k_is); (case xu_NoPlace => k_is); (case xv_NoPlace => k_is); (case xa_NoRest => k_is); (case xb_NoRest => k_is); (case xd_NoRest => k_is); (case xe_NoRest => k_is); (case xm_NoRest => k_is); (case xu_NoRest => k_is); (case xv_NoRest => k_is); (case xa_NoText => k_is); (case xb_NoText => k_is); (case xd_NoText => k_is); (case xe_NoText => k_is); (case xm_NoText => k_is); (case xu_NoText => k_is); (case xv_NoText => k_is); (case xp_NoPlace_NoRest => k_is); (case xp_NoPlace_NoText => k_is); (case xp_NoRest_NoPlace => k_is); (case xp_NoRest_NoText => k_is); (case xp_NoText_NoPlace => k_is); (case xp_NoText_NoRest => k_is); (case gS => k_is); (case gP => k_is); (case lP => k_is)
