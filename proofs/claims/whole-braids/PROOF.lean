import PyProof.Rows.All
import Wide.All
import OpenK.AllK
import Wide.FinOn
import KE.KeyNested
import HandS.Base
import HandS.Call
import HandS.List
import HandS.Comp
import HandS.Ends
import HandS.Exc
import HandS.ExcOwn
import HandS.TryOnly
import HandS.Words
import HandS.WordsExc
import HandS.Defaults
import HandS.TupAny
import HandS.Rev
import HandS.IsInst
import PyProof.NeData
import KE.KRevSl
import HandS.Style
import HandS.Strs
import KE.KDictKeyed
import KE.KDictDisplayH
import KE.KDictPairs
import HandS.Iter
import HandS.Dict
import HandS.More
import HandS.WrittenGet
import HandS.HeadHook3
import HandS.HeadHook4
import PySem.Challenge.RW_slidewires_k64_whole_braids_done_and_und
import KE.KStateDown
import HandS.Head0
import HandS.Head1
import HandS.Head2
import HandS.HeadEnd
import HandS.HeadHook1
import HandS.HeadHook2
set_option Elab.async false
set_option linter.all false
set_option maxRecDepth 100000
/-! Nested immutable data over the abstract heap, and an abstract store of lists: what an expression gives, what a block does. -/
namespace Brd
open PySem PySem.Spec PyProof.Rows L2

/-! ### semantic readings -/
section
variable (X : Cx)
def wE (e : Expr) : TE := fun σ H Q => ∀ (pins : List (Addr × Obj)) (s : Shared), Inv X pins σ H s → wpAny (model X.prog X.w) X.A (eval e X.env) (EP X pins σ Q) X.xe s
def wT (e : Expr) : TT := fun σ H Q => ∀ (pins : List (Addr × Obj)) (s : Shared), Inv X pins σ H s → wpAny (model X.prog X.w) X.A (isTrue e X.env (eval e X.env)) (TP X pins σ Q) X.xe s
def wW (e : Expr) : TT := fun σ H Q => ∀ (whole : Sem Value) (pins : List (Addr × Obj)) (s : Shared), Inv X pins σ H s → wpAny (model X.prog X.w) X.A (isTrue e X.env whole) (TP X pins σ Q) X.xe s
def wA (es : List Expr) : TA := fun σ H Q => ∀ (pos : Pos) (pins : List (Addr × Obj)) (s : Shared), Inv X pins σ H s → wpAny (model X.prog X.w) X.A (spliced (backTo pos (starEach es X.env))) (AP X pins σ Q) X.xe s
def wSs (sts : List Stmt) : TS := fun D σ H => ∀ (pins : List (Addr × Obj)) (s : Shared), Inv X pins σ H s → wpAny (model X.prog X.w) X.A (execs sts X.env) (SP X pins D) X.xe s
def wG (tg : Expr) : TG := fun v σ H Q => ∀ (pins : List (Addr × Obj)) (s : Shared) (u : Value), Inv X pins σ H s → RelV v u → wpAny (model X.prog X.w) X.A (assign tg X.env u) (fun _ s' => ∃ σ' H', Inv X pins σ' H' s' ∧ Q σ' H') X.xe s
def wGs (tgs : List Expr) : TGs := fun vs σ H Q => ∀ (pins : List (Addr × Obj)) (s : Shared) (us : List Value), Inv X pins σ H s → Vals vs us → wpAny (model X.prog X.w) X.A (assignInOrder ((assignEach tgs X.env).map (·.2)) us) (fun _ s' => ∃ σ' H', Inv X pins σ' H' s' ∧ Q σ' H') X.xe s
def wO (e : Option Expr) : TO := fun σ H Q => match e with
  | none => Q none H
  | some e => wE X e σ H fun x H1 => ∃ i, x = .int i ∧ Q (some i) H1
end
section
variable {X : Cx} {e : Expr} {es : List Expr} {sts : List Stmt} {tg : Expr} {tgs : List Expr} {t : TE} {tt : TT} {σ : L2.St} {H : Hp}
theorem pe_w : PE X e (wE X e) := ⟨fun pins s σ H Q I h => h pins s I⟩
theorem pt_w : PT X e (wT X e) := ⟨fun pins s σ H Q I h => h pins s I⟩
theorem pw_w : PW X e (wW X e) := ⟨fun wh pins s σ H Q I h => h wh pins s I⟩
theorem pa_w : PA X es (wA X es) := ⟨fun pos pins s σ H Q I h => h pos pins s I⟩
theorem pss_w : PSs X sts (wSs X sts) := ⟨fun pins s σ H D I h => h pins s I⟩
theorem pg_w : PG X tg (wG X tg) := ⟨fun pins s σ H v u Q I r h => h pins s u I r⟩
theorem pgs_w : PGs X tgs (wGs X tgs) := ⟨fun pins s σ H vs us Q I r h => h pins s us I r⟩
theorem po_w : ∀ {o : Option Expr}, PO X o (wO X o)
  | none => po_none
  | some e => po_some pe_w
theorem we_of {Q : VK} (h : PE X e t) (q : t σ H Q) : wE X e σ H Q := fun pins s I => h.run pins s σ H Q I q
theorem wt_of {Q : Bool → Hp → Prop} (h : PT X e tt) (q : tt σ H Q) : wT X e σ H Q := fun pins s I => h.run pins s σ H Q I q
theorem ww_of {Q : Bool → Hp → Prop} (h : PW X e tt) (q : tt σ H Q) : wW X e σ H Q := fun wh pins s I => h.run wh pins s σ H Q I q
theorem wa_of {ta : TA} {Q : List V → Hp → Prop} (h : PA X es ta) (q : ta σ H Q) : wA X es σ H Q := fun pos pins s I => h.run pos pins s σ H Q I q
theorem ws_of {ts : TS} {D : Ends} (h : PSs X sts ts) (q : ts D σ H) : wSs X sts D σ H := fun pins s I => h.run pins s σ H D I q
theorem wg_of {tw : TG} {v : V} {Q : L2.St → Hp → Prop} (h : PG X tg tw) (q : tw v σ H Q) : wG X tg v σ H Q := fun pins s u I r => h.run pins s σ H v u Q I r q
theorem wgs_of {tw : TGs} {vs : List V} {Q : L2.St → Hp → Prop} (h : PGs X tgs tw) (q : tw vs σ H Q) : wGs X tgs vs σ H Q := fun pins s us I r => h.run pins s σ H vs us Q I r q
/-- one statement, then the rest -/
theorem ws_cons {st : Stmt} {rest : List Stmt} {ts : TS} {D : Ends} (h : PS X st ts) (q : ts { D with nx := wSs X rest D } σ H) : wSs X (st :: rest) D σ H :=
  ws_of (pss_cons h pss_w) q
end

/-! ### data: None, whole numbers, texts, tuples of such -/
mutual
inductive Dv (K : PySem.W.Frag) (H : Hp) : NestedKey → V → Prop
  | none : Dv K H .none .non
  | num (i : Int) : Dv K H (.num i) (.int i)
  | text (x : Str) : Dv K H (.text x) (.str x)
  | tup {a : Addr} {xs : List V} {ks : List NestedKey} : SqT K H a xs → Dvs K H ks xs → Dv K H (.tup ks) (.ref a)
inductive Dvs (K : PySem.W.Frag) (H : Hp) : List NestedKey → List V → Prop
  | nil : Dvs K H [] []
  | cons {k : NestedKey} {v : V} {ks : List NestedKey} {vs : List V} : Dv K H k v → Dvs K H ks vs → Dvs K H (k :: ks) (v :: vs)
end
/-- the tuples stay -/
def Tk (H H' : Hp) : Prop := ∀ a xs, Rd H a (.tup xs) → Rd H' a (.tup xs)
theorem Tk.refl (H : Hp) : Tk H H := fun _ _ h => h
theorem Tk.trans {H H1 H2 : Hp} (a : Tk H H1) (b : Tk H1 H2) : Tk H H2 := fun x xs h => b x xs (a x xs h)
theorem Tk.new {H : Hp} {p : Addr} {o : HO} (h : H p = none) : Tk H (upd H p o) := fun a xs e => by
  rcases e with e | ⟨u, e⟩
  · exact .inl (by rw [upd_ne (ne_of_none e h)]; exact e)
  · exact .inr ⟨u, by rw [upd_ne (ne_of_none e h)]; exact e⟩
theorem Tk.write {H : Hp} {p : Addr} {o u : HO} (h : H p = some u) (h1 : ∀ xs, u ≠ .tup xs) (h2 : ∀ b w, u ≠ .frz b w) : Tk H (upd H p o) := fun a xs e => by
  rcases e with e | ⟨b, e⟩
  · exact .inl (by rw [upd_ne (ne_of e h (fun z => h1 xs z.symm))]; exact e)
  · exact .inr ⟨b, by rw [upd_ne (ne_of e h (fun z => h2 b _ z.symm))]; exact e⟩
theorem Tk.of_kept {H H' : Hp} (h : ∀ a o, H a = some o → H' a = some o) : Tk H H' := fun a xs e => by
  rcases e with e | ⟨u, e⟩
  · exact .inl (h _ _ e)
  · exact .inr ⟨u, h _ _ e⟩
theorem Tk.seq {K : PySem.W.Frag} {H H' : Hp} {a : Addr} {xs : List V} (t : Tk H H') (h : SqT K H a xs) : SqT K H' a xs := by
  rcases h with h | h
  · exact .inl (t _ _ h)
  · exact .inr h
mutual
theorem Dv.mono {K : PySem.W.Frag} {H H' : Hp} (t : Tk H H') : ∀ (k : NestedKey) (v : V), Dv K H k v → Dv K H' k v
  | .none, _, h => by cases h; exact .none
  | .num i, _, h => by cases h; exact .num _
  | .text x, _, h => by cases h; exact .text _
  | .tup ks, _, h => by
    cases h with
    | tup h1 h2 => exact .tup (t.seq h1) (Dvs.mono t ks _ h2)
theorem Dvs.mono {K : PySem.W.Frag} {H H' : Hp} (t : Tk H H') : ∀ (ks : List NestedKey) (vs : List V), Dvs K H ks vs → Dvs K H' ks vs
  | [], _, h => by cases h; exact .nil
  | k :: ks, _, h => by
    cases h with
    | cons h1 h2 => exact .cons (Dv.mono t k _ h1) (Dvs.mono t ks _ h2)
end
section
variable {K : PySem.W.Frag} {H : Hp}
theorem Dvs.length : ∀ {ks : List NestedKey} {vs : List V}, Dvs K H ks vs → vs.length = ks.length
  | [], _, h => by cases h; rfl
  | k :: ks, _, h => by cases h with | cons _ h2 => simp [Dvs.length h2]
theorem Dvs.get : ∀ {ks : List NestedKey} {vs : List V} {i : Nat} {k : NestedKey}, Dvs K H ks vs → ks[i]? = some k → ∃ v, vs[i]? = some v ∧ Dv K H k v
  | [], _, _, _, h, e => by simp at e
  | k :: ks, _, i, k', h, e => by
    cases h with
    | cons h1 h2 =>
      cases i with
      | zero => simp at e; subst e; exact ⟨_, rfl, h1⟩
      | succ i =>
        obtain ⟨v, a, b⟩ := Dvs.get (i := i) (k := k') h2 (by simpa using e)
        exact ⟨v, by simpa using a, b⟩
theorem Dvs.getV : ∀ {ks : List NestedKey} {vs : List V} {i : Nat} {v : V}, Dvs K H ks vs → vs[i]? = some v → ∃ k, ks[i]? = some k ∧ Dv K H k v
  | [], _, _, _, h, e => by cases h; simp at e
  | k :: ks, _, i, v', h, e => by
    cases h with
    | cons h1 h2 =>
      cases i with
      | zero => simp at e; subst e; exact ⟨_, rfl, h1⟩
      | succ i =>
        obtain ⟨v, a, b⟩ := Dvs.getV (i := i) (v := v') h2 (by simpa using e)
        exact ⟨v, by simpa using a, b⟩
theorem Dvs.append : ∀ {ks ls : List NestedKey} {vs ws : List V}, Dvs K H ks vs → Dvs K H ls ws → Dvs K H (ks ++ ls) (vs ++ ws)
  | [], _, _, _, h, g => by cases h; exact g
  | k :: ks, _, _, _, h, g => by cases h with | cons h1 h2 => exact .cons h1 (Dvs.append h2 g)
theorem Dvs.take : ∀ {ks : List NestedKey} {vs : List V} (n : Nat), Dvs K H ks vs → Dvs K H (ks.take n) (vs.take n)
  | _, _, 0, _ => by simpa using Dvs.nil
  | [], _, n + 1, h => by cases h; simpa using Dvs.nil
  | k :: ks, _, n + 1, h => by cases h with | cons h1 h2 => exact .cons h1 (Dvs.take n h2)
theorem Dvs.drop : ∀ {ks : List NestedKey} {vs : List V} (n : Nat), Dvs K H ks vs → Dvs K H (ks.drop n) (vs.drop n)
  | _, _, 0, h => h
  | [], _, n + 1, h => by cases h; simpa using Dvs.nil
  | k :: ks, _, n + 1, h => by cases h with | cons h1 h2 => exact Dvs.drop n h2
theorem Dvs.set {k : NestedKey} {v : V} (hk : Dv K H k v) : ∀ {ks : List NestedKey} {vs : List V} (n : Nat), Dvs K H ks vs → Dvs K H (ks.set n k) (vs.set n v)
  | [], _, n, h => by cases h; simpa using Dvs.nil
  | k' :: ks, _, 0, h => by cases h with | cons h1 h2 => exact .cons hk h2
  | k' :: ks, _, n + 1, h => by cases h with | cons h1 h2 => exact .cons h1 (Dvs.set hk n h2)
theorem Dvs.reverse : ∀ {ks : List NestedKey} {vs : List V}, Dvs K H ks vs → Dvs K H ks.reverse vs.reverse
  | [], _, h => by cases h; exact .nil
  | k :: ks, _, h => by cases h with | cons h1 h2 => rw [List.reverse_cons, List.reverse_cons]; exact Dvs.append (Dvs.reverse h2) (.cons h1 .nil)
theorem Dv.int_inv {i : Int} {v : V} (h : Dv K H (.num i) v) : v = .int i := by cases h; rfl
theorem Dv.str_inv {x : Str} {v : V} (h : Dv K H (.text x) v) : v = .str x := by cases h; rfl
theorem Dv.none_inv {v : V} (h : Dv K H .none v) : v = .non := by cases h; rfl
theorem Dv.tup_inv {ks : List NestedKey} {v : V} (h : Dv K H (.tup ks) v) : ∃ a xs, v = .ref a ∧ SqT K H a xs ∧ Dvs K H ks xs := by
  cases h with | tup h1 h2 => exact ⟨_, _, rfl, h1, h2⟩
theorem Dvs.ints : ∀ (ns : List Int), Dvs K H (ns.map .num) (ns.map V.int)
  | [] => .nil
  | n :: ns => .cons (.num n) (Dvs.ints ns)
theorem Dvs.ints_inv : ∀ {ns : List Int} {vs : List V}, Dvs K H (ns.map .num) vs → vs = ns.map V.int
  | [], _, h => by cases h; rfl
  | n :: ns, _, h => by cases h with | cons h1 h2 => rw [h1.int_inv, Dvs.ints_inv h2]; rfl
end

/-! ### what is known of a value, of a list -/
/-- data, or this very value -/
inductive Ob where
  | d (k : NestedKey)
  | v (x : V)
abbrev Ob.num (i : Int) : Ob := .d (.num i)
abbrev Ob.text (x : Str) : Ob := .d (.text x)
abbrev Ob.tup (ks : List NestedKey) : Ob := .d (.tup ks)
abbrev Ob.bl (b : Bool) : Ob := .v (.bl b)
abbrev Ob.r (a : Addr) : Ob := .v (.ref a)
def Ob.is (K : PySem.W.Frag) (H : Hp) : Ob → V → Prop
  | .d k, x => Dv K H k x
  | .v y, x => x = y
theorem Ob.is.mono {K : PySem.W.Frag} {H H' : Hp} (t : Tk H H') {o : Ob} {v : V} (h : o.is K H v) : o.is K H' v := by
  cases o with
  | d k => exact Dv.mono t k v h
  | v x => exact h
abbrev Obs (K : PySem.W.Frag) (H : Hp) : List Ob → List V → Prop := Paired fun o v => o.is K H v
theorem Obs.mono {K : PySem.W.Frag} {H H' : Hp} (t : Tk H H') : ∀ {os : List Ob} {vs : List V}, Obs K H os vs → Obs K H' os vs
  | _, _, .nil => .nil
  | _, _, .cons h r => .cons (h.mono t) (Obs.mono t r)
theorem Obs.length {K : PySem.W.Frag} {H : Hp} {os : List Ob} {vs : List V} (h : Obs K H os vs) : os.length = vs.length := Paired.length h
theorem Obs.get {K : PySem.W.Frag} {H : Hp} : ∀ {os : List Ob} {vs : List V} {i : Nat} {o : Ob}, Obs K H os vs → os[i]? = some o → ∃ v, vs[i]? = some v ∧ o.is K H v
  | _, _, _, _, .nil, e => by simp at e
  | _, _, 0, _, .cons r _, e => by simp at e; subst e; exact ⟨_, rfl, r⟩
  | _, _, i + 1, x, .cons _ t, e => by
    obtain ⟨u, h1, h2⟩ := Obs.get (i := i) (o := x) t (by simpa using e)
    exact ⟨u, by simpa using h1, h2⟩
theorem Obs.getV {K : PySem.W.Frag} {H : Hp} : ∀ {os : List Ob} {vs : List V} {i : Nat} {v : V}, Obs K H os vs → vs[i]? = some v → ∃ o, os[i]? = some o ∧ o.is K H v
  | _, _, _, _, .nil, e => by simp at e
  | _, _, 0, _, .cons r _, e => by simp at e; subst e; exact ⟨_, rfl, r⟩
  | _, _, i + 1, x, .cons _ t, e => by
    obtain ⟨u, h1, h2⟩ := Obs.getV (i := i) (v := x) t (by simpa using e)
    exact ⟨u, by simpa using h1, h2⟩
theorem Obs.append {K : PySem.W.Frag} {H : Hp} : ∀ {os ps : List Ob} {vs ws : List V}, Obs K H os vs → Obs K H ps ws → Obs K H (os ++ ps) (vs ++ ws)
  | _, _, _, _, .nil, g => g
  | _, _, _, _, .cons h r, g => .cons h (Obs.append r g)
theorem Obs.set {K : PySem.W.Frag} {H : Hp} {o : Ob} {v : V} (ho : o.is K H v) : ∀ {os : List Ob} {vs : List V} (i : Nat), Obs K H os vs → Obs K H (os.set i o) (vs.set i v)
  | _, _, _, .nil => .nil
  | _, _, 0, .cons _ t => .cons ho t
  | _, _, i + 1, .cons q t => .cons q (Obs.set ho i t)
theorem Obs.take {K : PySem.W.Frag} {H : Hp} : ∀ {os : List Ob} {vs : List V} (n : Nat), Obs K H os vs → Obs K H (os.take n) (vs.take n)
  | _, _, 0, _ => .nil
  | _, _, _ + 1, .nil => .nil
  | _, _, n + 1, .cons r t => .cons r (Obs.take n t)
theorem Obs.drop {K : PySem.W.Frag} {H : Hp} : ∀ {os : List Ob} {vs : List V} (n : Nat), Obs K H os vs → Obs K H (os.drop n) (vs.drop n)
  | _, _, 0, r => r
  | _, _, _ + 1, .nil => .nil
  | _, _, n + 1, .cons _ t => Obs.drop n t
theorem Obs.dropLast {K : PySem.W.Frag} {H : Hp} {os : List Ob} {vs : List V} (h : Obs K H os vs) : Obs K H os.dropLast vs.dropLast := by
  rw [List.dropLast_eq_take, List.dropLast_eq_take, h.length]; exact Obs.take _ h
theorem Obs.of_dvs {K : PySem.W.Frag} {H : Hp} : ∀ {ks : List NestedKey} {vs : List V}, Dvs K H ks vs → Obs K H (ks.map .d) vs
  | [], _, h => by cases h; exact .nil
  | k :: ks, _, h => by cases h with | cons h1 h2 => exact .cons h1 (Obs.of_dvs h2)
theorem Obs.to_dvs {K : PySem.W.Frag} {H : Hp} : ∀ {ks : List NestedKey} {vs : List V}, Obs K H (ks.map .d) vs → Dvs K H ks vs
  | [], _, h => by cases h; exact .nil
  | k :: ks, _, h => by cases h with | cons h1 h2 => exact .cons h1 (Obs.to_dvs h2)

/-- a dict with nested keys and data as values -/
def DctAt (w : World) (K : PySem.W.Frag) (H : Hp) (a : Addr) (o : Obj) (es : List (NestedKey × NestedKey)) : Prop :=
  (a == sysModules) = false ∧ es.length ≤ sizeLine ∧ ∃ (ds : Array DictEntry) (ep : Nat) (xs : List (NestedKey × Addr × Value)),
    H a = some (.ext fun h => h.get? a = some o) ∧ o.ExactDict ∧ o.data = .dict ds ep ∧ ds.toList = xs.map (fun x => (⟨x.1.hash w, .ref x.2.1, x.2.2⟩ : DictEntry)) ∧ (xs.map (·.1)).Nodup ∧
    Paired (fun (e : NestedKey × NestedKey) (x : NestedKey × Addr × Value) => e.1 = x.1 ∧ e.1.depth ≤ 8 ∧ Dv K H e.1 (.ref x.2.1) ∧ ∃ v, RelV v x.2.2 ∧ Dv K H e.2 v) es xs
/-- what stands at an address of the store: a list, a dict -/
inductive Mo where
  | l (os : List Ob)
  | dct (o : Obj) (es : List (NestedKey × NestedKey))
def Mo.is (w : World) (K : PySem.W.Frag) (H : Hp) (a : Addr) : Mo → Prop
  | .l os => ∃ vs, H a = some (.lst vs) ∧ Obs K H os vs
  | .dct o es => DctAt w K H a o es
theorem Mo.is.mono {w : World} {K : PySem.W.Frag} {H H' : Hp} {a : Addr} {m : Mo} (t : Tk H H') (e : H' a = H a) (h : m.is w K H a) : m.is w K H' a := by
  cases m with
  | l os => obtain ⟨vs, h1, h2⟩ := h; exact ⟨vs, by rw [e]; exact h1, h2.mono t⟩
  | dct o es =>
    obtain ⟨h0, hz, ds, ep, xs, h1, h2, h3, h4, h5, h6⟩ := h
    exact ⟨h0, hz, ds, ep, xs, by rw [e]; exact h1, h2, h3, h4, h5, Paired.mapP h6 fun p q ⟨a1, a2, a3, v, a4, a5⟩ => ⟨a1, a2, Dv.mono t _ _ a3, v, a4, Dv.mono t _ _ a5⟩⟩
theorem Mo.is.there {w : World} {K : PySem.W.Frag} {H : Hp} {a : Addr} {m : Mo} (h : m.is w K H a) : ∃ o, H a = some o ∧ (∀ xs, o ≠ .tup xs) ∧ (∀ b u, o ≠ .frz b u) := by
  cases m with
  | l os => obtain ⟨vs, h1, _⟩ := h; exact ⟨_, h1, (fun _ z => by cases z), (fun _ _ z => by cases z)⟩
  | dct o es => obtain ⟨_, _, ds, ep, xs, h1, _⟩ := h; exact ⟨_, h1, (fun _ z => by cases z), (fun _ _ z => by cases z)⟩
abbrev Gm := List (Option Ob)
abbrev Ms := List (Addr × Mo)
/-- the state: W the addresses that may change, H0 the heap at the entry, G what the slots hold, M the store -/
structure Ct where
  W : List Addr
  H0 : Hp
  G : Gm
  M : Ms
structure At (w : World) (K : PySem.W.Frag) (C : Ct) (σ : L2.St) (H : Hp) : Prop where
  sl : Paired (fun (s : Option Ob) (z : Option V) => ∀ o, s = some o → ∃ v, z = some v ∧ o.is K H v) C.G σ
  mo : ∀ p ∈ C.M, p.2.is w K H p.1
  nd : (C.M.map (·.1)).Nodup
  kp : ∀ a o, C.H0 a = some o → a ∉ C.W → H a = some o
  own : ∀ p ∈ C.M, p.1 ∈ C.W ∨ C.H0 p.1 = none
  tk : Tk C.H0 H
theorem paired_get {α β : Type} {F : α → β → Prop} : ∀ {xs : List α} {ys : List β} {i : Nat} {x : α}, Paired F xs ys → xs[i]? = some x → ∃ y, ys[i]? = some y ∧ F x y
  | _, _, _, _, .nil, e => by simp at e
  | _, _, 0, _, .cons r _, e => by simp at e; subst e; exact ⟨_, rfl, r⟩
  | _, _, i + 1, x, .cons _ t, e => by
    obtain ⟨u, h1, h2⟩ := paired_get (i := i) (x := x) t (by simpa using e)
    exact ⟨u, by simpa using h1, h2⟩
theorem paired_set {α β : Type} {F : α → β → Prop} {x : α} {y : β} (h : F x y) : ∀ {xs : List α} {ys : List β} (i : Nat), Paired F xs ys → Paired F (xs.set i x) (ys.set i y)
  | _, _, _, .nil => .nil
  | _, _, 0, .cons _ t => .cons h t
  | _, _, i + 1, .cons q t => .cons q (paired_set h i t)
section
variable {w : World} {K : PySem.W.Frag} {C : Ct} {σ : L2.St} {H H' : Hp}
theorem At.slot (A : At w K C σ H) {i : Nat} {o : Ob} (h : C.G[i]? = some (some o)) : ∃ v, σ[i]? = some (some v) ∧ o.is K H v := by
  obtain ⟨z, h1, h2⟩ := paired_get A.sl h
  obtain ⟨v, e, r⟩ := h2 o rfl
  exact ⟨v, by rw [h1, e], r⟩
theorem At.set (A : At w K C σ H) (i : Nat) {o : Ob} {v : V} (h : o.is K H v) : At w K { C with G := C.G.set i (some o) } (σ.set i (some v)) H :=
  ⟨paired_set (fun o' e => by cases e; exact ⟨v, rfl, h⟩) i A.sl, A.mo, A.nd, A.kp, A.own, A.tk⟩
/-- what the slots hold may be forgotten -/
theorem At.sl_mono {G : Gm} (t : Tk H H') (h : Paired (fun (s : Option Ob) (z : Option V) => ∀ o, s = some o → ∃ v, z = some v ∧ o.is K H v) G σ) :
    Paired (fun (s : Option Ob) (z : Option V) => ∀ o, s = some o → ∃ v, z = some v ∧ o.is K H' v) G σ :=
  Paired.mapP h fun s z q o e => by
    obtain ⟨v, e1, r⟩ := q o e
    exact ⟨v, e1, r.mono t⟩
theorem At.len (A : At w K C σ H) : C.G.length = σ.length := Paired.length A.sl
theorem At.at_ (A : At w K C σ H) {i : Nat} {a : Addr} {m : Mo} (h : C.M[i]? = some (a, m)) : m.is w K H a := A.mo (a, m) (List.mem_of_getElem? h)
theorem At.no (A : At w K C σ H) {p : Addr} (h : H p = none) : ∀ q ∈ C.M, q.1 ≠ p := fun q hq e => by
  obtain ⟨o, h1, _⟩ := (A.mo q hq).there
  rw [e, h] at h1; cases h1
theorem At.fresh (A : At w K C σ H) {p : Addr} (h : H p = none) : p ∈ C.W ∨ C.H0 p = none := by
  by_cases hp : p ∈ C.W
  · exact .inl hp
  · refine .inr ?_
    cases e : C.H0 p with
    | none => rfl
    | some o => rw [A.kp p o e hp] at h; cases h
/-- a new tuple -/
theorem At.tupNew (A : At w K C σ H) {p : Addr} {xs : List V} (h : H p = none) : At w K C σ (upd H p (.tup xs)) :=
  ⟨At.sl_mono (Tk.new h) A.sl, fun q hq => (A.mo q hq).mono (Tk.new h) (upd_ne (A.no h q hq)), A.nd, fun a o e hw => by
    have := A.kp a o e hw
    rw [upd_ne (ne_of_none this h)]; exact this, A.own, A.tk.trans (Tk.new h)⟩
/-- a new object of the store -/
theorem At.moNew (A : At w K C σ H) {p : Addr} {u : HO} {m : Mo} (h : H p = none) (hm : m.is w K (upd H p u) p) : At w K { C with M := C.M ++ [(p, m)] } σ (upd H p u) := by
  refine ⟨At.sl_mono (Tk.new h) A.sl, fun q hq => ?_, ?_, fun a o e hw => ?_, fun q hq => ?_, A.tk.trans (Tk.new h)⟩
  · rcases List.mem_append.mp hq with hq | hq
    · exact (A.mo q hq).mono (Tk.new h) (upd_ne (A.no h q hq))
    · simp only [List.mem_singleton] at hq; subst hq; exact hm
  · rw [List.map_append, List.nodup_append]
    refine ⟨A.nd, by simp, fun x hx y hy => ?_⟩
    simp only [List.map_cons, List.map_nil, List.mem_singleton] at hy
    subst hy
    obtain ⟨q, hq, rfl⟩ := List.mem_map.mp hx
    exact A.no h q hq
  · have := A.kp a o e hw
    rw [upd_ne (ne_of_none this h)]; exact this
  · rcases List.mem_append.mp hq with hq | hq
    · exact A.own q hq
    · simp only [List.mem_singleton] at hq; subst hq; exact A.fresh h
/-- an object of the store is written -/
theorem At.write (A : At w K C σ H) {i : Nat} {a : Addr} {m m' : Mo} {u : HO} (h : C.M[i]? = some (a, m)) (hm : Tk H (upd H a u) → m'.is w K (upd H a u) a) : At w K { C with M := C.M.set i (a, m') } σ (upd H a u) ∧ Tk H (upd H a u) := by
  obtain ⟨o, e1, n1, n2⟩ := (A.at_ h).there
  have t : Tk H (upd H a u) := Tk.write e1 n1 n2
  have hi : i < C.M.length := (List.getElem?_eq_some_iff.mp h).1
  have hk : (C.M.set i (a, m')).map (·.1) = C.M.map (·.1) := by
    rw [List.map_set]
    have : (C.M.map (·.1))[i]? = some a := by rw [List.getElem?_map, h]; rfl
    exact (List.ext_getElem? fun j => by
      by_cases hj : i = j
      · subst hj; rw [List.getElem?_set_self (List.getElem?_eq_some_iff.mp this).1, this]
      · rw [List.getElem?_set_ne hj])
  refine ⟨⟨At.sl_mono t A.sl, fun q hq => ?_, by rw [hk]; exact A.nd, fun b ob e hw => ?_, fun q hq => ?_, A.tk.trans t⟩, t⟩
  · obtain ⟨j, hj⟩ := List.mem_iff_getElem?.mp hq
    by_cases hij : i = j
    · subst hij
      have hj' : (C.M.set i (a, m'))[i]? = some q := hj
      rw [List.getElem?_set_self hi] at hj'
      cases hj'
      exact hm t
    · have hj' : (C.M.set i (a, m'))[j]? = some q := hj
      rw [List.getElem?_set_ne hij] at hj'
      have ne : q.1 ≠ a := fun e => by
        have x1 : (C.M.map (·.1))[i]? = some a := by rw [List.getElem?_map, h]; rfl
        have x2 : (C.M.map (·.1))[j]? = some a := by rw [List.getElem?_map, hj', ← e]; rfl
        exact hij ((List.getElem?_inj (List.getElem?_eq_some_iff.mp x1).1 A.nd).mp (x1.trans x2.symm))
      exact (A.mo q (List.mem_of_getElem? hj')).mono t (upd_ne ne)
  · have nb : b ≠ a := fun z => by
      subst z
      rcases A.own (b, m) (List.mem_of_getElem? h) with z | z
      · exact hw z
      · rw [show C.H0 b = none from z] at e; cases e
    rw [upd_ne nb]; exact A.kp b ob e hw
  · have : q.1 ∈ (C.M.set i (a, m')).map (·.1) := List.mem_map.mpr ⟨q, hq, rfl⟩
    rw [hk] at this
    obtain ⟨r, hr, e⟩ := List.mem_map.mp this
    rw [← e]; exact A.own r hr
/-- objects of the store forgotten -/
theorem At.sub (A : At w K C σ H) {M : Ms} (h : List.Sublist M C.M) : At w K { C with M := M } σ H :=
  ⟨A.sl, fun p hp => A.mo p (h.subset hp), A.nd.sublist (h.map _), A.kp, fun p hp => A.own p (h.subset hp), A.tk⟩
end
end Brd
namespace Brd
open PySem PySem.Spec PyProof.Rows L2

/-! ### what an expression gives -/
abbrev Pk := Ob → Ms → Prop
def EX (X : Cx) (C : Ct) (e : Expr) (P : Pk) : Prop := ∀ (σ : L2.St) (H : Hp), At X.w X.K C σ H → ∀ Q : VK, (∀ o M v H', P o M → Tk H H' → At X.w X.K { C with M := M } σ H' → o.is X.K H' v → Q v H') → wE X e σ H Q
/-- .. just this, nothing else of the store changed -/
def ED (X : Cx) (C : Ct) (e : Expr) (o : Ob) : Prop := EX X C e fun o' M' => o' = o ∧ M' = C.M
def EA (X : Cx) (C : Ct) (es : List Expr) (P : List Ob → Ms → Prop) : Prop := ∀ (σ : L2.St) (H : Hp), At X.w X.K C σ H → ∀ Q : List V → Hp → Prop, (∀ os M vs H', P os M → Tk H H' → At X.w X.K { C with M := M } σ H' → Obs X.K H' os vs → Q vs H') → wA X es σ H Q
def EDs (X : Cx) (C : Ct) (es : List Expr) (os : List Ob) : Prop := EA X C es fun os' M' => os' = os ∧ M' = C.M
def ET (X : Cx) (C : Ct) (e : Expr) (P : Bool → Ms → Prop) : Prop := ∀ (σ : L2.St) (H : Hp), At X.w X.K C σ H → ∀ Q : Bool → Hp → Prop, (∀ b M H', P b M → Tk H H' → At X.w X.K { C with M := M } σ H' → Q b H') → wT X e σ H Q
def EB (X : Cx) (C : Ct) (e : Expr) (b : Bool) : Prop := ET X C e fun b' M' => b' = b ∧ M' = C.M
def EW (X : Cx) (C : Ct) (e : Expr) (P : Bool → Ms → Prop) : Prop := ∀ (σ : L2.St) (H : Hp), At X.w X.K C σ H → ∀ Q : Bool → Hp → Prop, (∀ b M H', P b M → Tk H H' → At X.w X.K { C with M := M } σ H' → Q b H') → wW X e σ H Q
/-- an operation on values: what it gives of these -/
def RV (X : Cx) (C : Ct) (r : R2) (o1 o2 : Ob) (P : Pk) : Prop := ∀ (σ : L2.St) (H : Hp) (x y : V), At X.w X.K C σ H → o1.is X.K H x → o2.is X.K H y → ∀ Q : VK, (∀ o M v H', P o M → Tk H H' → At X.w X.K { C with M := M } σ H' → o.is X.K H' v → Q v H') → r x y H Q
def RC (X : Cx) (C : Ct) (r : List V → Hp → VK → Prop) (os : List Ob) (P : Pk) : Prop := ∀ (σ : L2.St) (H : Hp) (vs : List V), At X.w X.K C σ H → Obs X.K H os vs → ∀ Q : VK, (∀ o M v H', P o M → Tk H H' → At X.w X.K { C with M := M } σ H' → o.is X.K H' v → Q v H') → r vs H Q
def RU (X : Cx) (C : Ct) (r : V → Hp → VK → Prop) (o1 : Ob) (P : Pk) : Prop := ∀ (σ : L2.St) (H : Hp) (x : V), At X.w X.K C σ H → o1.is X.K H x → ∀ Q : VK, (∀ o M v H', P o M → Tk H H' → At X.w X.K { C with M := M } σ H' → o.is X.K H' v → Q v H') → r x H Q

section
variable {X : Cx} {C : Ct} {e a b c : Expr} {es : List Expr} {P P' : Pk} {o oa ob : Ob} {pos : Pos}
theorem EX.mono (h : EX X C e P) (k : ∀ o M, P o M → P' o M) : EX X C e P' := fun σ H A Q q => h σ H A Q fun o M v H' p => q o M v H' (k o M p)
theorem ED.ex (h : ED X C e o) (p : P o C.M) : EX X C e P := EX.mono h fun o' M' ⟨e1, e2⟩ => by subst e1 e2; exact p
theorem EX.pre {C' : Ct} (h : EX X C' e P) (k : C = C') : EX X C e P := k ▸ h
theorem EDs.ex {os : List Ob} {P : List Ob → Ms → Prop} (h : EDs X C es os) (p : P os C.M) : EA X C es P := fun σ H A Q q => h σ H A Q fun o' M' v H' ⟨e1, e2⟩ => by subst e1 e2; exact q _ _ v H' p
theorem EB.ex {b : Bool} {P : Bool → Ms → Prop} (h : EB X C e b) (p : P b C.M) : ET X C e P := fun σ H A Q q => h σ H A Q fun o' M' H' ⟨e1, e2⟩ => by subst e1 e2; exact q _ _ H' p
theorem ET.mono {P P' : Bool → Ms → Prop} (h : ET X C e P) (k : ∀ o M, P o M → P' o M) : ET X C e P' := fun σ H A Q q => h σ H A Q fun o M H' p => q o M H' (k o M p)
theorem ED.cast {o' : Ob} (h : ED X C e o) (k : o = o') : ED X C e o' := k ▸ h
theorem EB.cast {b b' : Bool} (h : EB X C e b) (k : b = b') : EB X C e b' := k ▸ h

/-! ### atoms -/
theorem ed_var (i : Nat) {x : Str} (hN : X.N[i]? = some x := by rfl) (hv : Vis X.env.scope x := by first | exact Or.inl rfl | exact Or.inr (Or.inl rfl) | exact Or.inr (Or.inr rfl)) (hG : C.G[i]? = some (some o) := by rfl)
    (hd : (x == ("__debug__" : Str)) = false := by decide) (hcd : (x == ("__classdict__" : Str)) = false := by decide) : ED X C (.Name x pos) o := fun σ H A Q q => by
  obtain ⟨v, e, r⟩ := A.slot hG
  exact we_of (pe_var hN hv hd hcd) ⟨v, e, q o C.M v H ⟨rfl, rfl⟩ (Tk.refl H) A r⟩
theorem ed_int {i : Int} {j : Nat} : ED X C (.Constant (.int i) j pos) (.num i) := fun σ H A Q q => we_of pe_int (q _ _ _ H ⟨rfl, rfl⟩ (Tk.refl H) A (Dv.num i))
theorem ed_str {x : Str} {j : Nat} : ED X C (.Constant (.str x) j pos) (.text x) := fun σ H A Q q => we_of pe_str (q _ _ _ H ⟨rfl, rfl⟩ (Tk.refl H) A (Dv.text x))
theorem ed_none {j : Nat} : ED X C (.Constant .none j pos) (.d .none) := fun σ H A Q q => we_of pe_non (q _ _ _ H ⟨rfl, rfl⟩ (Tk.refl H) A Dv.none)
theorem ed_bool {b : Bool} {j : Nat} : ED X C (.Constant (.bool b) j pos) (.bl b) := fun σ H A Q q => we_of pe_bl (q _ _ _ H ⟨rfl, rfl⟩ (Tk.refl H) A rfl)
/-- a constant of the module -/
theorem ed_glob {x : Str} {v : V} {u : Value} (hg : Gl X x) (hm : X.mg x = some u) (r : RelV v u) (ho : ∀ H, o.is X.K H v) (hd : (x == ("__debug__" : Str)) = false := by decide) : ED X C (.Name x pos) o := fun σ H A Q q =>
  we_of (pe_glob hg hm r hd) (q _ _ _ H ⟨rfl, rfl⟩ (Tk.refl H) A (ho H))

/-! ### argument lists -/
theorem ea_nil {P : List Ob → Ms → Prop} (p : P [] C.M) : EA X C [] P := fun σ H A Q q => wa_of pa_nil (q [] C.M [] H p (Tk.refl H) A .nil)
theorem ea_cons {P : List Ob → Ms → Prop} (h : EX X C e fun o M => EA X { C with M := M } es fun os M' => P (o :: os) M') (hs : starEach (e :: es) X.env = (false, eval e X.env) :: starEach es X.env := by rfl) : EA X C (e :: es) P := fun σ H A Q q =>
  wa_of (pa_cons pe_w pa_w hs) (h σ H A _ fun o M v H1 p t1 A1 r1 => p σ H1 A1 _ fun os M' vs H2 p2 t2 A2 r2 => q (o :: os) M' (v :: vs) H2 p2 (t1.trans t2) A2 (.cons (r1.mono t2) r2))
theorem eds_nil : EDs X C [] [] := ea_nil ⟨rfl, rfl⟩
theorem eds_cons {os : List Ob} (h : ED X C e o) (hr : EDs X C es os) (hs : starEach (e :: es) X.env = (false, eval e X.env) :: starEach es X.env := by rfl) : EDs X C (e :: es) (o :: os) :=
  ea_cons (h.ex (EDs.ex hr ⟨rfl, rfl⟩)) hs

/-! ### tuples and lists made -/
theorem ex_tup {k : Nat} (h : EA X C es fun os M => ∃ ks : List NestedKey, os = ks.map .d ∧ ks.length ≤ sizeLine ∧ P (.tup ks) M) : EX X C (.Tuple es k pos) P := fun σ H A Q q =>
  we_of (pe_tup pa_w) (h σ H A _ fun os M vs H1 ⟨ks, e, hl, p⟩ t1 A1 r1 => by
    subst e
    have r2 := Obs.to_dvs r1
    refine ⟨by rw [r2.length]; exact hl, fun pp hp => ?_⟩
    have t2 : Tk H1 (upd H1 pp (.tup vs)) := Tk.new hp
    exact q _ M _ _ p (t1.trans t2) (A1.tupNew hp) (Dv.tup (SqT.of upd_same) (Dvs.mono t2 _ _ r2)))
theorem ed_tup {k : Nat} {ks : List NestedKey} {os : List Ob} (h : EDs X C es os) (e : os = ks.map .d := by rfl) (hl : ks.length ≤ sizeLine := by (first | decide | (simp only [List.length_cons, List.length_nil]; decide))) : ED X C (.Tuple es k pos) (.tup ks) :=
  ex_tup (h.ex ⟨ks, e, hl, rfl, rfl⟩)
/-- a new list -/
theorem ex_lst (h : EA X C es fun os M => os.length ≤ sizeLine ∧ ∀ p, P (.r p) (M ++ [(p, .l os)])) : EX X C (.List es pos) P := fun σ H A Q q =>
  we_of (pe_lst pa_w) (h σ H A _ fun os M vs H1 ⟨hl, p⟩ t1 A1 r1 => by
    refine ⟨by rw [← r1.length]; exact hl, fun pp hp => ?_⟩
    have t2 : Tk H1 (upd H1 pp (.lst vs)) := Tk.new hp
    exact q _ _ _ _ (p pp) (t1.trans t2) (A1.moNew hp ⟨vs, upd_same, r1.mono t2⟩) rfl)

/-! ### operators -/
theorem ex_op {op : Operator} {r : R2} (ho : OpR X (binaryOp op) r) (h : EX X C a fun o1 M1 => EX X { C with M := M1 } b fun o2 M2 => RV X { C with M := M2 } r o1 o2 P) : EX X C (.BinOp a op b pos) P := fun σ H A Q q =>
  we_of (pe_op ho pe_w pe_w) (h σ H A _ fun o1 M1 v1 H1 p1 t1 A1 r1 => p1 σ H1 A1 _ fun o2 M2 v2 H2 p2 t2 A2 r2 => p2 σ H2 v1 v2 A2 (r1.mono t2) r2 Q fun o M v H' p t3 A3 r3 => q o M v H' p ((t1.trans t2).trans t3) A3 r3)
theorem ex_un {op : UnaryOp} {r : V → Hp → VK → Prop} (ho : UnR X (unaryOp op) r) (h : EX X C a fun o1 M1 => RU X { C with M := M1 } r o1 P) : EX X C (.UnaryOp op a pos) P := fun σ H A Q q =>
  we_of (pe_un ho pe_w) (h σ H A _ fun o1 M1 v1 H1 p1 t1 A1 r1 => p1 σ H1 v1 A1 r1 Q fun o M v H' p t3 A3 r3 => q o M v H' p (t1.trans t3) A3 r3)
theorem ex_cmp {op : CmpOp} {r : R2} (ho : OpR X (compareOp op) r) (h : EX X C a fun o1 M1 => EX X { C with M := M1 } b fun o2 M2 => RV X { C with M := M2 } r o1 o2 P) (hm : behindInMarks op b = false := by first | exact nomark _ | rfl) : EX X C (.Compare a [op] [b] pos) P := fun σ H A Q q =>
  we_of (pe_cmpR ho pe_w pe_w hm) (h σ H A _ fun o1 M1 v1 H1 p1 t1 A1 r1 => p1 σ H1 A1 _ fun o2 M2 v2 H2 p2 t2 A2 r2 => p2 σ H2 v1 v2 A2 (r1.mono t2) r2 Q fun o M v H' p t3 A3 r3 => q o M v H' p ((t1.trans t2).trans t3) A3 r3)
theorem et_cmp {op : CmpOp} {r : R2} {P : Bool → Ms → Prop} (ho : OpR X (compareOp op) r) (h : EX X C a fun o1 M1 => EX X { C with M := M1 } b fun o2 M2 => RV X { C with M := M2 } r o1 o2 fun o M => ∃ k, o = .bl k ∧ P k M) (hm : behindInMarks op b = false := by first | exact nomark _ | rfl) : ET X C (.Compare a [op] [b] pos) P := fun σ H A Q q =>
  wt_of (pt_cmpR ho pe_w pe_w hm) (h σ H A _ fun o1 M1 v1 H1 p1 t1 A1 r1 => p1 σ H1 A1 _ fun o2 M2 v2 H2 p2 t2 A2 r2 => p2 σ H2 v1 v2 A2 (r1.mono t2) r2 _ fun o M v H' ⟨k, e, p⟩ t3 A3 r3 => by
    subst e
    cases r3
    exact ⟨k, rfl, q k M H' p ((t1.trans t2).trans t3) A3⟩)
/-- an expression that gives a truth value, as a test -/
theorem et_val {P : Bool → Ms → Prop} (h : EX X C e fun o M => ∃ k, o = .bl k ∧ P k M) (he : ∀ whole, isTrue e X.env whole = (do let v ← whole; standAt e.pos; holding [v] (truthy v)) := by intro _; rfl) : ET X C e P := fun σ H A Q q =>
  wt_of (pt_val pe_w he) (h σ H A _ fun o M v H1 ⟨k, e1, p⟩ t1 A1 r1 => by
    subst e1
    cases r1
    exact ⟨k, rfl, q k M H1 p t1 A1⟩)
theorem ew_and1 {P : Bool → Ms → Prop} (h : ET X C a P) : EW X C (.BoolOp .And [a] pos) P := fun σ H A Q q => ww_of (pw_and1 pt_w) (h σ H A Q q)
theorem ew_or1 {P : Bool → Ms → Prop} (h : ET X C a P) : EW X C (.BoolOp .Or [a] pos) P := fun σ H A Q q => ww_of (pw_or1 pt_w) (h σ H A Q q)
theorem ew_and {rest : List Expr} {P : Bool → Ms → Prop} (h : ET X C a fun k M => if k = true then EW X { C with M := M } (.BoolOp .And (b :: rest) pos) P else P false M) : EW X C (.BoolOp .And (a :: b :: rest) pos) P := fun σ H A Q q =>
  ww_of (pw_and pt_w pw_w) (h σ H A _ fun k M H1 p t1 A1 => by
    cases k with
    | true => exact iteT (p σ H1 A1 Q fun b M' H' p' t' A' => q b M' H' p' (t1.trans t') A')
    | false => exact iteF (q false M H1 p t1 A1))
theorem ew_or {rest : List Expr} {P : Bool → Ms → Prop} (h : ET X C a fun k M => if k = true then P true M else EW X { C with M := M } (.BoolOp .Or (b :: rest) pos) P) : EW X C (.BoolOp .Or (a :: b :: rest) pos) P := fun σ H A Q q =>
  ww_of (pw_or pt_w pw_w) (h σ H A _ fun k M H1 p t1 A1 => by
    cases k with
    | true => exact iteT (q true M H1 p t1 A1)
    | false => exact iteF (p σ H1 A1 Q fun b M' H' p' t' A' => q b M' H' p' (t1.trans t') A'))
theorem et_w {P : Bool → Ms → Prop} (h : EW X C e P) : ET X C e P := fun σ H A Q q => wt_of pw_w.pt (h σ H A Q q)
theorem et_not {P : Bool → Ms → Prop} (h : ET X C a fun k M => P (!k) M) : ET X C (.UnaryOp .Not a pos) P := fun σ H A Q q => wt_of (pt_not pt_w) (h σ H A _ fun k M H1 p t1 A1 => q (!k) M H1 p t1 A1)
/-- the same, what is known ahead -/
theorem eb_and1 {k : Bool} (h : EB X C a k) : EW X C (.BoolOp .And [a] pos) fun b' M' => b' = k ∧ M' = C.M := ew_and1 h
theorem eb_or1 {k : Bool} (h : EB X C a k) : EW X C (.BoolOp .Or [a] pos) fun b' M' => b' = k ∧ M' = C.M := ew_or1 h
theorem eb_and {rest : List Expr} {k l : Bool} (h : EB X C a k) (h2 : k = true → EW X C (.BoolOp .And (b :: rest) pos) fun b' M' => b' = l ∧ M' = C.M) : EW X C (.BoolOp .And (a :: b :: rest) pos) fun b' M' => b' = (k && l) ∧ M' = C.M :=
  ew_and (h.ex (by cases k with
    | true => exact iteT (h2 rfl)
    | false => exact iteF ⟨rfl, rfl⟩))
theorem eb_or {rest : List Expr} {k l : Bool} (h : EB X C a k) (h2 : k = false → EW X C (.BoolOp .Or (b :: rest) pos) fun b' M' => b' = l ∧ M' = C.M) : EW X C (.BoolOp .Or (a :: b :: rest) pos) fun b' M' => b' = (k || l) ∧ M' = C.M :=
  ew_or (h.ex (by cases k with
    | true => exact iteT ⟨rfl, rfl⟩
    | false => exact iteF (h2 rfl)))
theorem eb_w {k : Bool} (h : EW X C e fun b' M' => b' = k ∧ M' = C.M) : EB X C e k := et_w h
theorem eb_not {k : Bool} (h : EB X C a k) : EB X C (.UnaryOp .Not a pos) (!k) := et_not (h.ex ⟨rfl, rfl⟩)
/-- and, or as values (truth values) -/
theorem ex_one {op : BoolOp} (h : EX X C a P) : EX X C (.BoolOp op [a] pos) P := fun σ H A Q q => we_of (pe_one pe_w) (h σ H A Q q)
theorem ed_one {op : BoolOp} (h : ED X C a o) : ED X C (.BoolOp op [a] pos) o := ex_one h
theorem ex_and {rest : List Expr} (h : EX X C a fun o M => ∃ k, o = .bl k ∧ if k = true then EX X { C with M := M } (.BoolOp .And (b :: rest) pos) P else P (.bl false) M) : EX X C (.BoolOp .And (a :: b :: rest) pos) P := fun σ H A Q q =>
  we_of (pe_and pe_w pe_w) (h σ H A _ fun o M v H1 ⟨k, e, p⟩ t1 A1 r1 => by
    subst e
    cases r1
    refine ⟨k, rfl, ?_⟩
    cases k with
    | true => exact iteT (p σ H1 A1 Q fun o M' v H' p' t' A' r' => q o M' v H' p' (t1.trans t') A' r')
    | false => exact iteF (q _ M _ H1 p t1 A1 rfl))
theorem ed_and {rest : List Expr} {k l : Bool} (h : ED X C a (.bl k)) (h2 : k = true → ED X C (.BoolOp .And (b :: rest) pos) (.bl l)) : ED X C (.BoolOp .And (a :: b :: rest) pos) (.bl (k && l)) :=
  ex_and (h.ex ⟨k, rfl, by cases k with
    | true => exact iteT (h2 rfl)
    | false => exact iteF ⟨rfl, rfl⟩⟩)
theorem ex_not (h : EX X C a fun o M => ∃ k, o = .bl k ∧ P (.bl (!k)) M) : EX X C (.UnaryOp .Not a pos) P := fun σ H A Q q =>
  we_of (pe_not pe_w) (h σ H A _ fun o M v H1 ⟨k, e, p⟩ t1 A1 r1 => by
    subst e
    cases r1
    exact ⟨k, rfl, q _ M _ H1 p t1 A1 rfl⟩)
theorem ed_not {k : Bool} (h : ED X C a (.bl k)) : ED X C (.UnaryOp .Not a pos) (.bl (!k)) := ex_not (h.ex ⟨k, rfl, rfl, rfl⟩)

/-! ### operations on numbers -/
theorem rv_int {g : Int → Int → V} {i j : Int} (p : ∀ M, M = C.M → P o M) (h : ∀ H, o.is X.K H (g i j)) : RV X C (rI0 g) (.num i) (.num j) P := fun σ H x y A r1 r2 Q q => by
  cases Dv.int_inv r1
  cases Dv.int_inv r2
  exact ⟨i, j, rfl, rfl, q o C.M _ H (p _ rfl) (Tk.refl H) A (h H)⟩
theorem rv_intC {D : Int → Int → Prop} {g : Int → Int → V} {i j : Int} (hD : D i j) (p : ∀ M, M = C.M → P o M) (h : ∀ H, o.is X.K H (g i j)) : RV X C (rI D g) (.num i) (.num j) P := fun σ H x y A r1 r2 Q q => by
  cases Dv.int_inv r1
  cases Dv.int_inv r2
  exact ⟨i, j, rfl, rfl, hD, q o C.M _ H (p _ rfl) (Tk.refl H) A (h H)⟩
section
variable {i j : Int}
theorem ed_add (ha : ED X C a (.num i)) (hb : ED X C b (.num j)) : ED X C (.BinOp a .Add b pos) (.num (i + j)) := ex_op op_add (ha.ex (hb.ex (rv_int (fun _ e => ⟨rfl, e⟩) fun _ => Dv.num _)))
theorem ed_sub (ha : ED X C a (.num i)) (hb : ED X C b (.num j)) : ED X C (.BinOp a .Sub b pos) (.num (i - j)) := ex_op op_sub (ha.ex (hb.ex (rv_int (fun _ e => ⟨rfl, e⟩) fun _ => Dv.num _)))
theorem ed_mul (ha : ED X C a (.num i)) (hb : ED X C b (.num j)) (hc : CMul i j) : ED X C (.BinOp a .Mult b pos) (.num (i * j)) := ex_op op_mul (ha.ex (hb.ex (rv_intC hc (fun _ e => ⟨rfl, e⟩) fun _ => Dv.num _)))
theorem ed_mod (ha : ED X C a (.num i)) (hb : ED X C b (.num j)) (hc : 0 < j) : ED X C (.BinOp a .Mod b pos) (.num (i % j)) := ex_op op_mod (ha.ex (hb.ex (rv_intC hc (fun _ e => ⟨rfl, e⟩) fun _ => Dv.num _)))
theorem ed_fdiv (ha : ED X C a (.num i)) (hb : ED X C b (.num j)) (hc : CDiv i j) : ED X C (.BinOp a .FloorDiv b pos) (.num (i / j)) := ex_op op_fdiv (ha.ex (hb.ex (rv_intC hc (fun _ e => ⟨rfl, e⟩) fun _ => Dv.num _)))
theorem ed_pow (ha : ED X C a (.num i)) (hb : ED X C b (.num j)) (hc : CPow i j) : ED X C (.BinOp a .Pow b pos) (.num (i ^ j.toNat)) := ex_op op_pow (ha.ex (hb.ex (rv_intC hc (fun _ e => ⟨rfl, e⟩) fun _ => Dv.num _)))
theorem ed_neg (ha : ED X C a (.num i)) : ED X C (.UnaryOp .USub a pos) (.num (-i)) := ex_un un_neg (ha.ex fun σ H x A r1 Q q => by
  cases Dv.int_inv r1
  exact ⟨i, rfl, q _ _ _ H ⟨rfl, rfl⟩ (Tk.refl H) A (Dv.num _)⟩)
theorem ed_lt (ha : ED X C a (.num i)) (hb : ED X C b (.num j)) : ED X C (.Compare a [.Lt] [b] pos) (.bl (decide (i < j))) := ex_cmp op_lt (ha.ex (hb.ex (rv_int (fun _ e => ⟨rfl, e⟩) fun _ => rfl)))
theorem ed_le (ha : ED X C a (.num i)) (hb : ED X C b (.num j)) : ED X C (.Compare a [.LtE] [b] pos) (.bl (decide (i ≤ j))) := ex_cmp op_le (ha.ex (hb.ex (rv_int (fun _ e => ⟨rfl, e⟩) fun _ => rfl)))
theorem eb_lt (ha : ED X C a (.num i)) (hb : ED X C b (.num j)) : EB X C (.Compare a [.Lt] [b] pos) (decide (i < j)) := et_cmp op_lt (ha.ex (hb.ex (rv_int (fun _ e => ⟨_, rfl, rfl, e⟩) fun _ => rfl)))
theorem eb_le (ha : ED X C a (.num i)) (hb : ED X C b (.num j)) : EB X C (.Compare a [.LtE] [b] pos) (decide (i ≤ j)) := et_cmp op_le (ha.ex (hb.ex (rv_int (fun _ e => ⟨_, rfl, rfl, e⟩) fun _ => rfl)))
theorem eb_gt (ha : ED X C a (.num i)) (hb : ED X C b (.num j)) : EB X C (.Compare a [.Gt] [b] pos) (decide (j < i)) := et_cmp op_gt (ha.ex (hb.ex (rv_int (fun _ e => ⟨_, rfl, rfl, e⟩) fun _ => rfl)))
theorem eb_ge (ha : ED X C a (.num i)) (hb : ED X C b (.num j)) : EB X C (.Compare a [.GtE] [b] pos) (decide (j ≤ i)) := et_cmp op_ge (ha.ex (hb.ex (rv_int (fun _ e => ⟨_, rfl, rfl, e⟩) fun _ => rfl)))
end
end
end Brd
namespace Brd
open PySem PySem.Spec PyProof.Rows L2

/-! ### data in the model's heap -/
section
variable {X : Cx} {pins : List (Addr × Obj)} {σ : L2.St} {H : Hp} {s : Shared}
mutual
theorem Dv.nested (I : Inv X pins σ H s) : ∀ (k : NestedKey) (v : V) (u : Value), Dv X.K H k v → RelV v u → NestedIs s.heap k u
  | .none, _, _, h, r => by cases h; cases r; exact .none
  | .num i, _, _, h, r => by cases h; obtain ⟨t, rfl⟩ := r; exact .int i t
  | .text x, _, _, h, r => by cases h; obtain ⟨t, rfl⟩ := r; exact .text x t
  | .tup ks, _, _, h, r => by
    cases h with
    | tup h1 h2 =>
      cases r
      obtain ⟨its, rv, ⟨o, ho, hc, n, hd⟩, _⟩ := I.tuple h1
      exact .tup ho hc hd (Dvs.nested I ks _ its h2 rv)
theorem Dvs.nested (I : Inv X pins σ H s) : ∀ (ks : List NestedKey) (vs : List V) (us : List Value), Dvs X.K H ks vs → Vals vs us → NestedAll s.heap ks us
  | [], _, _, h, r => by cases h; cases r; exact .nil
  | k :: ks, _, _, h, r => by
    cases h with
    | cons h1 h2 =>
      cases r with
      | cons r1 r2 => exact .cons (Dv.nested I k _ _ h1 r1) (Dvs.nested I ks _ _ h2 r2)
end
end
section
variable {X : Cx}
def rEqN (K : PySem.W.Frag) : R2 := fun x y H Q => ∃ ks ls, Dv K H (.tup ks) x ∧ Dv K H (.tup ls) y ∧ NestedKey.depthAll ks ≤ 8 ∧ Q (.bl (decide (ks = ls))) H
def rNeN (K : PySem.W.Frag) : R2 := fun x y H Q => ∃ ks ls, Dv K H (.tup ks) x ∧ Dv K H (.tup ls) y ∧ NestedKey.depthAll ks ≤ 8 ∧ Q (.bl (!decide (ks = ls))) H
theorem decAll (ks ls : List NestedKey) : NestedKey.beqAll ks ls = decide (ks = ls) := by
  cases h : NestedKey.beqAll ks ls with
  | true => exact (decide_eq_true (NestedKey.eq_of_beqAll ks ls h)).symm
  | false => exact (decide_eq_false fun e => by rw [e, NestedKey.beqAll_self] at h; cases h).symm
theorem tup_items (hu : X.A.units + 64 < cLine) {pins : List (Addr × Obj)} {s : Shared} {σ : L2.St} {H : Hp} (I : Inv X pins σ H s) {ks ls : List NestedKey} {x y : V} {v u : Value} (hx : Dv X.K H (.tup ks) x) (hy : Dv X.K H (.tup ls) y) (rx : RelV x v) (ry : RelV y u) (hd : NestedKey.depthAll ks ≤ 8) :
    ∃ (l b : Addr) (vs ws : Array Value), v = .ref l ∧ u = .ref b ∧ s.heap.IsTuple l vs ∧ s.heap.IsTuple b ws ∧ vs.size = ks.length ∧ ws.size = ls.length ∧
      ∀ j (h1 : j < vs.size) (h2 : j < ws.size), SeqAt.EqAt X.A.in1 s vs[j] ws[j] (keyEqAt ks ls j) := by
  have n1 := Dv.nested I _ _ _ hx rx
  have n2 := Dv.nested I _ _ _ hy ry
  cases n1 with
  | @tup l o vs n _ h1 h2 h3 h4 =>
    cases n2 with
    | @tup b o' ws n' _ k1 k2 k3 k4 =>
      refine ⟨l, b, vs, ws, rfl, rfl, ⟨_, h1, h2, _, h3⟩, ⟨_, k1, k2, _, k3⟩, by simpa using NestedAll.length _ _ h4, by simpa using NestedAll.length _ _ k4, fun j j1 j2 => ?_⟩
      have := eqAt_keys ks ls X.A.in1 s vs.toList ws.toList h4 k4 (by
        have : min (NestedKey.depthAll ks) (NestedKey.depthAll ls) ≤ 8 := Nat.le_trans (Nat.min_le_left _ _) hd
        simp only [Around.in1_units]
        omega) j (by simpa using j1) (by simpa using j2)
      simpa using this
theorem op_eqN (hu : X.A.units + 64 < cLine) : OpR X (compareOp .Eq) (rEqN X.K) := by
  intro pins s σ H x y v u Q I rx ry h
  obtain ⟨ks, ls, hx, hy, hd, q⟩ := h
  obtain ⟨l, b, vs, ws, rfl, rfl, t1, t2, n1, n2, he⟩ := tup_items hu I hx hy rx ry hd
  refine SeqAt.RcAt.tuples t1 t2 (by omega) he X.prog X.w X.xe _ ?_
  rw [n1, n2, beqAll_eq ks ls, decAll]
  exact ⟨.bl _, H, I, rfl, q⟩
theorem op_neN (hu : X.A.units + 64 < cLine) : OpR X (compareOp .NotEq) (rNeN X.K) := by
  intro pins s σ H x y v u Q I rx ry h
  obtain ⟨ks, ls, hx, hy, hd, q⟩ := h
  obtain ⟨l, b, vs, ws, rfl, rfl, t1, t2, n1, n2, he⟩ := tup_items hu I hx hy rx ry hd
  refine SeqAt.RcNeAt.tuples t1 t2 (by omega) he X.prog X.w X.xe _ ?_
  rw [n1, n2, beqAll_eq ks ls, decAll]
  exact ⟨.bl _, H, I, rfl, q⟩
end

section
variable {X : Cx} {C : Ct} {e a b c : Expr} {es : List Expr} {P : Pk} {o oa ob : Ob} {pos : Pos} {ks ls : List NestedKey}
theorem rv_eqN {o1 o2 : Ob} (e1 : o1 = .tup ks) (e2 : o2 = .tup ls) (hd : NestedKey.depthAll ks ≤ 8) (p : P (.bl (decide (ks = ls))) C.M) : RV X C (rEqN X.K) o1 o2 P := fun σ H x y A r1 r2 Q q => by
  subst e1 e2
  exact ⟨ks, ls, r1, r2, hd, q _ _ _ H p (Tk.refl H) A rfl⟩
theorem rv_neN {o1 o2 : Ob} (e1 : o1 = .tup ks) (e2 : o2 = .tup ls) (hd : NestedKey.depthAll ks ≤ 8) (p : P (.bl (!decide (ks = ls))) C.M) : RV X C (rNeN X.K) o1 o2 P := fun σ H x y A r1 r2 Q q => by
  subst e1 e2
  exact ⟨ks, ls, r1, r2, hd, q _ _ _ H p (Tk.refl H) A rfl⟩
theorem eb_eqT (hu : X.A.units + 64 < cLine) (ha : ED X C a (.tup ks)) (hb : ED X C b (.tup ls)) (hd : NestedKey.depthAll ks ≤ 8) : EB X C (.Compare a [.Eq] [b] pos) (decide (ks = ls)) := et_cmp (op_eqN hu) (ha.ex (hb.ex (rv_eqN rfl rfl hd ⟨_, rfl, rfl, rfl⟩)))
theorem eb_neT (hu : X.A.units + 64 < cLine) (ha : ED X C a (.tup ks)) (hb : ED X C b (.tup ls)) (hd : NestedKey.depthAll ks ≤ 8) : EB X C (.Compare a [.NotEq] [b] pos) (!decide (ks = ls)) := et_cmp (op_neN hu) (ha.ex (hb.ex (rv_neN rfl rfl hd ⟨_, rfl, rfl, rfl⟩)))
theorem ed_eqT (hu : X.A.units + 64 < cLine) (ha : ED X C a (.tup ks)) (hb : ED X C b (.tup ls)) (hd : NestedKey.depthAll ks ≤ 8) : ED X C (.Compare a [.Eq] [b] pos) (.bl (decide (ks = ls))) := ex_cmp (op_eqN hu) (ha.ex (hb.ex (rv_eqN rfl rfl hd ⟨rfl, rfl⟩)))
/-- scalars -/
theorem rv_eqI {i j : Int} (p : ∀ k, k = decide (i = j) → P (.bl k) C.M) : RV X C rEq (.num i) (.num j) P := fun σ H x y A r1 r2 Q q => by
  cases Dv.int_inv r1
  cases Dv.int_inv r2
  refine ⟨rfl, q (.bl (decide (V.int i = V.int j))) _ _ H (p _ ?_) (Tk.refl H) A rfl⟩
  rw [Bool.eq_iff_iff]; simp
theorem rv_neI {i j : Int} (p : ∀ k, k = (!decide (i = j)) → P (.bl k) C.M) : RV X C rNe (.num i) (.num j) P := fun σ H x y A r1 r2 Q q => by
  cases Dv.int_inv r1
  cases Dv.int_inv r2
  refine ⟨rfl, q (.bl (!decide (V.int i = V.int j))) _ _ H (p _ ?_) (Tk.refl H) A rfl⟩
  rw [Bool.eq_iff_iff]; simp
theorem rv_eqS {i j : Str} (p : ∀ k, k = decide (i = j) → P (.bl k) C.M) : RV X C rEq (.text i) (.text j) P := fun σ H x y A r1 r2 Q q => by
  cases Dv.str_inv r1
  cases Dv.str_inv r2
  refine ⟨rfl, q (.bl (decide (V.str i = V.str j))) _ _ H (p _ ?_) (Tk.refl H) A rfl⟩
  rw [Bool.eq_iff_iff]; simp
theorem rv_neS {i j : Str} (p : ∀ k, k = (!decide (i = j)) → P (.bl k) C.M) : RV X C rNe (.text i) (.text j) P := fun σ H x y A r1 r2 Q q => by
  cases Dv.str_inv r1
  cases Dv.str_inv r2
  refine ⟨rfl, q (.bl (!decide (V.str i = V.str j))) _ _ H (p _ ?_) (Tk.refl H) A rfl⟩
  rw [Bool.eq_iff_iff]; simp
theorem eb_eqI {i j : Int} (ha : ED X C a (.num i)) (hb : ED X C b (.num j)) : EB X C (.Compare a [.Eq] [b] pos) (decide (i = j)) := et_cmp op_eq (ha.ex (hb.ex (rv_eqI fun k e => ⟨k, rfl, e, rfl⟩)))
theorem eb_neI {i j : Int} (ha : ED X C a (.num i)) (hb : ED X C b (.num j)) : EB X C (.Compare a [.NotEq] [b] pos) (!decide (i = j)) := et_cmp op_ne (ha.ex (hb.ex (rv_neI fun k e => ⟨k, rfl, e, rfl⟩)))
theorem eb_eqS {i j : Str} (ha : ED X C a (.text i)) (hb : ED X C b (.text j)) : EB X C (.Compare a [.Eq] [b] pos) (decide (i = j)) := et_cmp op_eq (ha.ex (hb.ex (rv_eqS fun k e => ⟨k, rfl, e, rfl⟩)))
theorem eb_neS {i j : Str} (ha : ED X C a (.text i)) (hb : ED X C b (.text j)) : EB X C (.Compare a [.NotEq] [b] pos) (!decide (i = j)) := et_cmp op_ne (ha.ex (hb.ex (rv_neS fun k e => ⟨k, rfl, e, rfl⟩)))
theorem ed_eqI {i j : Int} (ha : ED X C a (.num i)) (hb : ED X C b (.num j)) : ED X C (.Compare a [.Eq] [b] pos) (.bl (decide (i = j))) := ex_cmp op_eq (ha.ex (hb.ex (rv_eqI fun k e => ⟨by rw [e], rfl⟩)))
theorem ed_neS {i j : Str} (ha : ED X C a (.text i)) (hb : ED X C b (.text j)) : ED X C (.Compare a [.NotEq] [b] pos) (.bl (!decide (i = j))) := ex_cmp op_ne (ha.ex (hb.ex (rv_neS fun k e => ⟨by rw [e], rfl⟩)))
theorem ed_eqS {i j : Str} (ha : ED X C a (.text i)) (hb : ED X C b (.text j)) : ED X C (.Compare a [.Eq] [b] pos) (.bl (decide (i = j))) := ex_cmp op_eq (ha.ex (hb.ex (rv_eqS fun k e => ⟨by rw [e], rfl⟩)))
/-- is None, is not None of data -/
theorem dv_non {K : PySem.W.Frag} {H : Hp} {k : NestedKey} {v : V} (h : Dv K H k v) : decide (v = .non) = decide (k = .none) := by
  rw [Bool.eq_iff_iff, decide_eq_true_iff, decide_eq_true_iff]
  constructor
  · intro e; subst e; cases h; rfl
  · intro e; subst e; cases h; rfl
theorem eb_isN {k : NestedKey} (ha : ED X C a (.d k)) (hb : ED X C b (.d .none)) : EB X C (.Compare a [.Is] [b] pos) (decide (k = .none)) := et_cmp op_isN (ha.ex (hb.ex fun σ H x y A r1 r2 Q q => ⟨Dv.none_inv r2, by
  rw [dv_non r1]; exact q _ _ _ H ⟨_, rfl, rfl, rfl⟩ (Tk.refl H) A rfl⟩))
theorem eb_notN {k : NestedKey} (ha : ED X C a (.d k)) (hb : ED X C b (.d .none)) : EB X C (.Compare a [.IsNot] [b] pos) (!decide (k = .none)) := et_cmp op_notN (ha.ex (hb.ex fun σ H x y A r1 r2 Q q => ⟨Dv.none_inv r2, by
  rw [dv_non r1]; exact q _ _ _ H ⟨_, rfl, rfl, rfl⟩ (Tk.refl H) A rfl⟩))

/-! ### subscripts -/
theorem dvs_atI {K : PySem.W.Frag} {H : Hp} {ks : List NestedKey} {vs : List V} {i : Int} {k : NestedKey} (h : Dvs K H ks vs) (e : atI ks i = some k) : ∃ v, atI vs i = some v ∧ Dv K H k v := by
  unfold atI at e ⊢
  rw [h.length]
  cases q : ixN ks.length i with
  | none => rw [q] at e; cases e
  | some j =>
    rw [q] at e
    exact h.get e
theorem obs_atI {K : PySem.W.Frag} {H : Hp} {ks : List Ob} {vs : List V} {i : Int} {k : Ob} (h : Obs K H ks vs) (e : atI ks i = some k) : ∃ v, atI vs i = some v ∧ k.is K H v := by
  unfold atI at e ⊢
  rw [← h.length]
  cases q : ixN ks.length i with
  | none => rw [q] at e; cases e
  | some j =>
    rw [q] at e
    exact h.get e
theorem ex_ix {r : R2} (hr : IxR X r) (h : EX X C a fun o1 M1 => EX X { C with M := M1 } b fun o2 M2 => RV X { C with M := M2 } r o1 o2 P) (hs : PlainIx b := by intro _ _; rfl) : EX X C (.Subscript a b pos) P := fun σ H A Q q =>
  we_of (pe_ix hr pe_w pe_w hs) (h σ H A _ fun o1 M1 v1 H1 p1 t1 A1 r1 => p1 σ H1 A1 _ fun o2 M2 v2 H2 p2 t2 A2 r2 => p2 σ H2 v1 v2 A2 (r1.mono t2) r2 Q fun o M v H' p t3 A3 r3 => q o M v H' p ((t1.trans t2).trans t3) A3 r3)
theorem rv_ixT {i : Int} {k : NestedKey} (h : atI ks i = some k) (p : P (.d k) C.M) : RV X C (rIxT X.K) (.tup ks) (.num i) P := fun σ H x y A r1 r2 Q q => by
  cases Dv.int_inv r2
  obtain ⟨p1, xs, rfl, hs, hd⟩ := Dv.tup_inv r1
  obtain ⟨v, e, r⟩ := dvs_atI hd h
  exact ⟨p1, xs, i, v, rfl, rfl, hs, e, q _ _ v H p (Tk.refl H) A r⟩
/-- a list of the store -/
theorem rv_ixL {i : Int} {j : Nat} {l : Addr} {os : List Ob} (hM : C.M[j]? = some (l, .l os)) (h : atI os i = some o) (p : P o C.M) : RV X C (rIxL X.K) (.r l) (.num i) P := fun σ H x y A r1 r2 Q q => by
  cases Dv.int_inv r2
  cases (show x = V.ref l from r1)
  obtain ⟨vs, e1, r⟩ := A.at_ hM
  obtain ⟨v, e, r'⟩ := obs_atI r h
  exact ⟨l, vs, i, v, rfl, rfl, SqL.of e1, e, q _ _ v H p (Tk.refl H) A r'⟩
theorem ed_ix {i : Int} {k : NestedKey} (ha : ED X C a (.tup ks)) (hb : ED X C b (.num i)) (h : atI ks i = some k) (hs : PlainIx b := by intro _ _; rfl) : ED X C (.Subscript a b pos) (.d k) := ex_ix ix_tup (ha.ex (hb.ex (rv_ixT h ⟨rfl, rfl⟩))) hs
theorem ed_ixL {i : Int} {j : Nat} {l : Addr} {os : List Ob} (ha : ED X C a (.r l)) (hb : ED X C b (.num i)) (hM : C.M[j]? = some (l, .l os)) (h : atI os i = some o) (hs : PlainIx b := by intro _ _; rfl) : ED X C (.Subscript a b pos) o := ex_ix ix_list (ha.ex (hb.ex (rv_ixL hM h ⟨rfl, rfl⟩))) hs

/-! ### slices, sums of tuples -/
def cutN {α : Type} (xs : List α) (lo hi : Option Int) : List α := (xs.drop (HT.sIx xs.length 0 lo)).take (HT.sIx xs.length xs.length hi - HT.sIx xs.length 0 lo)
theorem cutN_V (xs : List V) (lo hi : Option Int) : cutN xs lo hi = cutV xs lo hi := rfl
theorem dvs_cut {K : PySem.W.Frag} {H : Hp} {ks : List NestedKey} {vs : List V} (lo hi : Option Int) (h : Dvs K H ks vs) : Dvs K H (cutN ks lo hi) (cutV vs lo hi) := by
  unfold cutN cutV
  rw [h.length]
  exact Dvs.take _ (Dvs.drop _ h)
theorem obs_cut {K : PySem.W.Frag} {H : Hp} {ks : List Ob} {vs : List V} (lo hi : Option Int) (h : Obs K H ks vs) : Obs K H (cutN ks lo hi) (cutV vs lo hi) := by
  unfold cutN cutV
  rw [h.length]
  exact Obs.take _ (Obs.drop _ h)
/-- a part of a slice -/
def EP1 (X : Cx) (C : Ct) : Option Expr → Option Int → Prop
  | none, o => o = none
  | some e, o => ∃ i, o = some i ∧ ED X C e (.num i)
theorem EP1.run {lo : Option Expr} {i : Option Int} (h : EP1 X C lo i) {σ : L2.St} {H : Hp} (A : At X.w X.K C σ H) {Q : Option Int → Hp → Prop} (q : ∀ H', Tk H H' → At X.w X.K C σ H' → Q i H') : wO X lo σ H Q := by
  cases lo with
  | none => cases (show i = none from h); exact q H (Tk.refl H) A
  | some e =>
    obtain ⟨j, rfl, he⟩ := h
    exact he σ H A _ fun o M v H' ⟨e1, e2⟩ t A' r => by
      subst e1 e2
      exact ⟨j, Dv.int_inv r, q H' t A'⟩
theorem ed_slice {lo hi : Option Expr} {i j : Option Int} {p2 : Pos} (ha : ED X C a (.tup ks)) (hl : EP1 X C lo i) (hh : EP1 X C hi j) : ED X C (.Subscript a (.Slice lo hi none p2) pos) (.tup (cutN ks i j)) := fun σ H A Q q =>
  we_of (pe_slice sl_tupA pe_w po_w po_w) (ha σ H A _ fun o M v H1 ⟨e1, e2⟩ t1 A1 r1 => by
    subst e1 e2
    refine hl.run A1 fun H2 t2 A2 => hh.run A2 fun H3 t3 A3 => ?_
    obtain ⟨a1, xs, rfl, hs, hd⟩ := Dv.tup_inv r1
    have hs3 := (t2.trans t3).seq hs
    have hd3 := Dvs.mono (t2.trans t3) _ _ hd
    refine ⟨a1, xs, rfl, hs3, fun whole => ?_, fun _ p hp => ?_⟩
    · refine q _ _ _ H3 ⟨rfl, rfl⟩ ((t1.trans t2).trans t3) A3 ?_
      have e : cutN ks i j = ks := by
        unfold cutN
        have hz := hd.length
        have w1 := whole
        rw [hz] at w1
        obtain ⟨w1, w2⟩ := w1
        rw [w1, w2]
        simp
      rw [e]
      exact Dv.tup hs3 hd3
    · have t4 : Tk H3 (upd H3 p (.tup (cutV xs i j))) := Tk.new hp
      exact q _ _ _ _ ⟨rfl, rfl⟩ (((t1.trans t2).trans t3).trans t4) (A3.tupNew hp) (Dv.tup (SqT.of upd_same) (Dvs.mono t4 _ _ (dvs_cut i j hd3))))
theorem ed_catT (ha : ED X C a (.tup ks)) (hb : ED X C b (.tup ls)) (hz : ks.length + ls.length ≤ sizeLine) : ED X C (.BinOp a .Add b pos) (.tup (ks ++ ls)) := ex_op op_catA (ha.ex (hb.ex fun σ H x y A r1 r2 Q q => by
  obtain ⟨a1, xs, rfl, hs, hd⟩ := Dv.tup_inv r1
  obtain ⟨b1, ys, rfl, hs2, hd2⟩ := Dv.tup_inv r2
  have z1 := hd.length
  have z2 := hd2.length
  refine ⟨a1, b1, xs, ys, rfl, rfl, hs, hs2, by omega, fun e => ?_, fun _ e => ?_, fun _ _ p hp => ?_⟩
  · subst e
    cases hd
    exact q _ _ _ H ⟨rfl, rfl⟩ (Tk.refl H) A (Dv.tup hs2 hd2)
  · subst e
    cases hd2
    rw [List.append_nil] at q
    exact q _ _ _ H ⟨rfl, rfl⟩ (Tk.refl H) A (Dv.tup hs hd)
  · have t4 : Tk H (upd H p (.tup (xs ++ ys))) := Tk.new hp
    exact q _ _ _ _ ⟨rfl, rfl⟩ t4 (A.tupNew hp) (Dv.tup (SqT.of upd_same) (Dvs.mono t4 _ _ (Dvs.append hd hd2)))))
end
end Brd
namespace Brd
open PySem PySem.Spec PyProof.Rows L2

/-! ### t[::-1] of a tuple; xs[::k], k = 1 or -1, of a list -/
theorem adjust_rev (n : Nat) : Builtin.Slice.sliceAdjust none none (-1) (n : Int) = ((n : Int) - 1, -1) := by
  unfold Builtin.Slice.sliceAdjust
  simp
theorem places_rev (n : Nat) : Builtin.Slice.slicePlaces ((n : Int) - 1) (-1) (-1) = n := by
  unfold Builtin.Slice.slicePlaces
  rw [if_neg (by decide)]
  by_cases h : (n : Int) - 1 > -1
  · rw [if_pos h]
    rw [show (- -1 : Int) = 1 by decide, Int.ediv_one]
    omega
  · rw [if_neg h]
    omega
theorem fm_congr {α β : Type} {f g : α → Option β} : ∀ {l : List α}, (∀ x ∈ l, f x = g x) → l.filterMap f = l.filterMap g
  | [], _ => rfl
  | x :: l, h => by
    rw [List.filterMap_cons, List.filterMap_cons, h x List.mem_cons_self, fm_congr fun y hy => h y (List.mem_cons_of_mem _ hy)]
section
variable {prog : Program} {w : World} {A : Around} {E : Value → Shared → Prop} {s : Shared}
theorem sliceApplied_rev {sl : Addr} {n : Nat} {t : Tok} {Q : Int × Int × Nat → Shared → Prop} (hs : s.heap.IsSliceOf sl .none .none (.int (-1) t))
    (h : Q ((n : Int) - 1, -1, n) s) : wpAny (model prog w) A (Builtin.Slice.sliceApplied (.ref sl) (pure (n : Int))) Q E s := by
  obtain ⟨os, hos, hcs, hds⟩ := id hs
  unfold Builtin.Slice.sliceApplied Builtin.Slice.sliceFields
  refine wpAny_bind (wpAny_bind (wpAny_field hos hds (x := .none) rfl (wpAny_bind (wpAny_field hos hds (x := .none) rfl (wpAny_bind (wpAny_field hos hds (x := .int (-1) t) rfl (wpAny_pure ?_)))))))
  refine wpAny_bind (slicePart_int ?_)
  show wpAny _ _ (if ((-1 : Int) == 0) = true then _ else _) _ _ s
  rw [if_neg (by decide)]
  refine wpAny_bind (slicePart_none (wpAny_bind (slicePart_none (wpAny_bind (wpAny_pure ?_)))))
  show wpAny _ _ (match Builtin.Slice.sliceAdjust none none (-1) (n : Int) with | (lo, hi) => pure (lo, (-1 : Int), Builtin.Slice.slicePlaces lo hi (-1))) _ _ s
  rw [adjust_rev n]
  show wpAny _ _ (pure ((n : Int) - 1, (-1 : Int), Builtin.Slice.slicePlaces ((n : Int) - 1) (-1) (-1))) _ _ s
  rw [places_rev]
  exact wpAny_pure h
theorem pick_rev (xs : Array Value) : ((List.range xs.size).filterMap fun (m : Nat) => xs[(((xs.size : Nat) : Int) - 1 + (m : Int) * (-1)).toNat]?).toArray = xs.toList.reverse.toArray := by
  have e : ∀ m ∈ List.range xs.size, xs[(((xs.size : Nat) : Int) - 1 + (m : Int) * (-1)).toNat]? = xs[xs.size - 1 - m]? := fun m hm => by
    have := List.mem_range.mp hm
    congr 1
    omega
  rw [fm_congr e]
  have e2 : (List.range xs.size).filterMap (fun m => xs[xs.size - 1 - m]?) = ((List.range xs.size).map fun k => xs.size - 1 - k).filterMap (xs[·]?) := by
    rw [List.filterMap_map]; rfl
  rw [e2, PySem.W.krv_range, List.filterMap_reverse, PySem.W.krv_all]
theorem getItem_tuple_rev {t sl : Addr} {items : Array Value} {tk : Tok} {Q : Value → Shared → Prop} (ht : IsTup s.heap t items) (hs : s.heap.IsSliceOf sl .none .none (.int (-1) tk))
    (h : Q (.ref s.heap.objs.size) { s with heap := s.heap.push { cls := .type "tuple", data := .seq items.toList.reverse.toArray } })
    (hsz : items.size ≤ sizeLine) : wpAny (model prog w) A (getItem (.ref t) (.ref sl)) Q E s := by
  have htake : sizeOk (.seq items.toList.reverse.toArray) := by
    show items.toList.reverse.toArray.size ≤ sizeLine
    rw [List.size_toArray, List.length_reverse, Array.length_toList]
    exact hsz
  obtain ⟨os, hos, hcs, hds⟩ := id hs
  have hTs : s.TypeIs (.ref sl) "slice" := ⟨os, hos, hcs⟩
  unfold getItem
  try with_reducible refine wpAny_holding ?_
  first | refine wpAny_bind (wpAny_pure ?_) | skip
  refine wpAny_bind (wpAny_sequenceKey ht.typeIs (by decide) ?_)
  refine wpAny_bind (wpAny_callSpecial?_slot (name := Str.ofString "__getitem__") ht.typeIs PyProof.Rows.slot_tuple_getitem
    (wpAny_call_entry PyProof.Rows.slot_tuple_getitem ht.typeIs entry_tuple_getitem ?_ (args_tuple_getitem _ _)))
  show wpAny _ _ (Builtin.Tuple.tupleItemsOf (.ref t) >>= _) _ _ s
  refine wpAny_bind (tupleItemsOf_ ht ?_)
  refine wpAny_bind (wpAny_typeOf hTs ?_)
  rw [if_pos (by decide)]
  refine wpAny_bind (sliceApplied_rev hs ?_)
  show wpAny _ _ (if ((((items.size : Nat) : Int) - 1 == 0 && (-1 : Int) == 1 && items.size == items.size) = true) then _ else _) _ _ s
  rw [if_neg (by simp), pick_rev]
  first
    | exact wpAny_bind (m := Builtin.Tuple.tupleExact _) (wpAny_newObj_type (wpAny_pure ⟨_, rfl, wpAny_pure h⟩) htake)
    | exact wpAny_bind (m := Builtin.Tuple.tupleExact _) (wpAny_newObj_type (wpAny_bind (wpAny_pure (wpAny_pure ⟨_, rfl, wpAny_pure h⟩))) htake)
    | exact wpAny_bind (wpAny_bind (m := Builtin.Tuple.tupleExact _) (wpAny_newObj_type (wpAny_pure (wpAny_pure ⟨_, rfl, wpAny_pure h⟩)) htake))
    | exact wpAny_bind (wpAny_bind (m := Builtin.Tuple.tupleExact _) (wpAny_newObj_type (wpAny_pure ⟨_, rfl, wpAny_pure h⟩) htake))
end
section
variable {X : Cx}
def tRevT (K : PySem.W.Frag) (te : TE) : TE := fun σ H Q => te σ H fun x H1 => ∃ a xs, x = .ref a ∧ SqT K H1 a xs ∧ ∀ p, H1 p = none → Q (.ref p) (upd H1 p (.tup xs.reverse))
theorem pe_revT {e : Expr} {te : TE} {k : Nat} {p1 p2 p3 pos : Pos} (he : PE X e te) : PE X (.Subscript e (.Slice none none (some (.UnaryOp .USub (.Constant (.int 1) k p1) p2)) p3) pos) (tRevT X.K te) := by
  refine ⟨fun pins s σ H Q I h => ?_⟩
  refine Subscript_ (thn (he.run pins s σ H _ I h) fun v s1 ⟨x, H1, I1, r1, q1⟩ => ?_)
  obtain ⟨a, xs, ex, hx, q⟩ := q1
  subst ex
  cases r1
  have hst : PO X (some (.UnaryOp .USub (.Constant (.int 1) k p1) p2)) (tPart (tUn (rU fun i => .int (-i)) (tC (.int 1)))) := po_some (pe_un un_neg pe_int)
  refine wpAny_Slice (thn (po_none.run pins s1 σ H1 (fun o H2 => o = none ∧ H2 = H1) I1 ⟨rfl, rfl⟩) fun vl s2 ⟨l, H2, I2, pl, el, e2⟩ => ?_)
  subst el e2
  refine thn (po_none.run pins s2 σ H2 (fun o H3 => o = none ∧ H3 = H2) I2 ⟨rfl, rfl⟩) fun vu s3 ⟨u, H3, I3, pu, eu, e3⟩ => ?_
  subst eu e3
  refine thn (hst.run pins s3 σ H3 (fun o H4 => o = some (-1) ∧ H4 = H3) I3 ⟨1, rfl, -1, rfl, rfl, rfl⟩) fun vs s4 ⟨o, H4, I4, ps, eo, e4⟩ => ?_
  subst eo e4
  cases pl
  cases pu
  obtain ⟨tk, rfl⟩ : ∃ tk, vs = Value.int (-1) tk := by cases ps; exact ⟨_, rfl⟩
  have I5 : Inv X pins σ H4 { s4 with heap := s4.heap.push { cls := .type "slice", data := .fields #[.none, .none, .int (-1) tk] } } := I4.kept (t' := s4.toks) fun b ob q => Heap.get?_push_of_some _ q
  obtain ⟨its, r, ht, hz⟩ := I5.tuple hx
  have hlen := r.length
  show wpAny (model X.prog X.w) X.A (subscriptTail e (.Slice none none (some (.UnaryOp .USub (.Constant (.int 1) k p1) p2)) p3) (.ref a) (.ref s4.heap.objs.size)) (EP X pins σ Q) X.xe { s4 with heap := s4.heap.push { cls := .type "slice", data := .fields #[.none, .none, .int (-1) tk] } }
  refine tail_any (ops := [.ref a, .ref s4.heap.objs.size]) ht.typeIs (PyProof.Rows.slot_tuple_getitem.lookup) ?_ (by with_unfolding_all rfl)
  refine getItem_tuple_rev ht (Heap.IsSliceOf.new _ _ _ _) ?_ (by rw [List.size_toArray]; omega)
  refine ⟨.ref _, _, I5.laid (t' := s4.toks) (o := .tup xs.reverse) (fun b ob q => Heap.get?_push_of_some _ q) (Nat.le_refl _) ?_, rfl, q _ (I5.hok.fresh (Nat.le_refl _))⟩
  exact ⟨by rw [List.length_reverse]; exact hz, _, r.reverse, ⟨_, Heap.get?_push_size _ rfl, rfl, 0, rfl⟩⟩
/-- xs[::e], e an int that is 1 or -1 -/
def tStepL (K : PySem.W.Frag) (te ts : TE) : TE := fun σ H Q => te σ H fun x H1 => ∃ a, x = .ref a ∧ ts σ H1 fun y H2 => ∃ k xs, y = .int k ∧ (k = 1 ∨ k = -1) ∧ SqL K H2 a xs ∧ ∀ p, H2 p = none → Q (.ref p) (upd H2 p (.lst (if k = 1 then xs else xs.reverse)))
theorem pick_one (its : List Value) : slicePick its.toArray none none (some 1) = its.toArray := by
  have h : slicePick its.toArray none none (some 1) = slicePick its.toArray none none none := rfl
  rw [h, slicePick_cut]
  simp [HT.sIx]
theorem pe_stepL {e st : Expr} {te ts : TE} {p3 pos : Pos} (he : PE X e te) (hst : PE X st ts) (hs : ∀ o i, subscripted (.Slice none none (some st) p3) false o i = operate [o, i] (getItem o i) := by intro _ _; with_unfolding_all rfl) :
    PE X (.Subscript e (.Slice none none (some st) p3) pos) (tStepL X.K te ts) := by
  refine ⟨fun pins s σ H Q I h => ?_⟩
  refine Subscript_ (thn (he.run pins s σ H _ I h) fun v s1 ⟨x, H1, I1, r1, q1⟩ => ?_)
  obtain ⟨a, ex, q⟩ := q1
  subst ex
  cases r1
  refine wpAny_Slice (thn (po_none.run pins s1 σ H1 (fun o H2 => o = none ∧ H2 = H1) I1 ⟨rfl, rfl⟩) fun vl s2 ⟨l, H2, I2, pl, el, e2⟩ => ?_)
  subst el e2
  refine thn (po_none.run pins s2 σ H2 (fun o H3 => o = none ∧ H3 = H2) I2 ⟨rfl, rfl⟩) fun vu s3 ⟨u, H3, I3, pu, eu, e3⟩ => ?_
  subst eu e3
  refine thn ((po_some hst).run pins s3 σ H3 (fun o H4 => ∃ k xs, o = some k ∧ (k = 1 ∨ k = -1) ∧ SqL X.K H4 a xs ∧ ∀ p, H4 p = none → Q (.ref p) (upd H4 p (.lst (if k = 1 then xs else xs.reverse)))) I3 ?_) fun vs s4 ⟨o, H4, I4, ps, k, xs, eo, hk, hx, q4⟩ => ?_
  · have e0 : (fun y H2 => ∃ k xs, y = V.int k ∧ (k = 1 ∨ k = -1) ∧ SqL X.K H2 a xs ∧ ∀ p, H2 p = none → Q (.ref p) (upd H2 p (.lst (if k = 1 then xs else xs.reverse)))) = (fun y H2 => ∃ i, y = V.int i ∧ ∃ k xs, some i = some k ∧ (k = 1 ∨ k = -1) ∧ SqL X.K H2 a xs ∧ ∀ p, H2 p = none → Q (.ref p) (upd H2 p (.lst (if k = 1 then xs else xs.reverse)))) := by
      funext y H2
      apply propext
      constructor
      · rintro ⟨k, xs, rfl, r⟩
        exact ⟨k, rfl, k, xs, rfl, r⟩
      · rintro ⟨i, rfl, k, xs, e, r⟩
        cases e
        exact ⟨_, xs, rfl, r⟩
    rw [e0] at q
    exact q
  · subst eo
    have I5 : Inv X pins σ H4 { s4 with heap := s4.heap.push { cls := .type "slice", data := .fields #[vl, vu, vs] } } := I4.kept (t' := s4.toks) fun b ob q => Heap.get?_push_of_some _ q
    obtain ⟨its, r, ht, hz⟩ := I5.list hx
    have hlen := r.length
    show wpAny (model X.prog X.w) X.A (subscriptTail e (.Slice none none (some st) p3) (.ref a) (.ref s4.heap.objs.size)) (EP X pins σ Q) X.xe { s4 with heap := s4.heap.push { cls := .type "slice", data := .fields #[vl, vu, vs] } }
    refine tail_any (ops := [.ref a, .ref s4.heap.objs.size]) ht.isList.typeIs (PySem.slot_list_getitem.lookup) ?_ (hs _ _)
    refine wpAny_getItem_list_slice ht.isList (Heap.IsSliceOf.new _ vl vu vs) pl pu ps (by rcases hk with rfl | rfl <;> decide) ?_ (by rw [List.size_toArray]; omega)
    rcases hk with rfl | rfl
    · rw [pick_one]
      refine ⟨.ref _, _, I5.laid (t' := s4.toks) (o := .lst xs) (fun b ob q => Heap.get?_push_of_some _ q) (Nat.le_refl _) ?_, rfl, ?_⟩
      · exact ⟨hz, _, 0, r, Heap.get?_push_size _ rfl⟩
      · have := q4 s4.heap.objs.size.succ (by
          have := I5.hok.fresh (a := s4.heap.objs.size.succ) (by rw [Heap.size_push]; exact Nat.le_refl _)
          exact this)
        have e : ({ s4 with heap := s4.heap.push { cls := .type "slice", data := .fields #[vl, vu, vs] } } : Shared).heap.objs.size = s4.heap.objs.size.succ := by
          show (s4.heap.push _).objs.size = _
          rw [Heap.size_push]
        rw [e]
        simpa using this
    · rw [PySem.W.krv_pick]
      refine ⟨.ref _, _, I5.laid (t' := s4.toks) (o := .lst xs.reverse) (fun b ob q => Heap.get?_push_of_some _ q) (Nat.le_refl _) ?_, rfl, ?_⟩
      · exact ⟨by rw [List.length_reverse]; exact hz, _, 0, r.reverse, Heap.get?_push_size _ rfl⟩
      · have := q4 _ (I5.hok.fresh (Nat.le_refl _))
        simpa using this
end
end Brd
namespace Brd
open PySem PySem.Spec PyProof.Rows L2

/-! ### promises -/
/-- R: of these arguments and these objects of the store, what comes and how they stand then (new ones behind) -/
def spG (w : World) (K : PySem.W.Frag) (R : List Ob → Ms → Pk → Prop) : Sp := fun vs H Q _ => ∃ os M post, R os M post ∧ Obs K H os vs ∧ (∀ p ∈ M, p.2.is w K H p.1) ∧ (M.map (·.1)).Nodup ∧
  ∀ o M' v H', post o M' → (∀ a x, H a = some x → a ∉ M.map (·.1) → H' a = some x) → Tk H H' → (∀ p ∈ M', p.2.is w K H' p.1) → (M'.map (·.1)).Nodup → (∀ p ∈ M', p.1 ∈ M.map (·.1) ∨ H p.1 = none) → o.is K H' v → Q v H'
/-- a def that may raise the class at cn: what comes (none: it raises) -/
def spX (K : PySem.W.Frag) (cn : Addr) (R : List Ob → Option Ob → Prop) : Sp := fun vs H Q E => ∃ os r, R os r ∧ Obs K H os vs ∧
  (∀ o v H', r = some o → (∀ a x, H a = some x → H' a = some x) → o.is K H' v → Q v H') ∧ (r = none → ∀ H', (∀ a x, H a = some x → H' a = some x) → E (.ref cn) none H')

section
variable {X : Cx} {C : Ct} {e a b c : Expr} {es : List Expr} {P P' : Pk} {o oa ob : Ob} {p pos pos' : Pos} {ks ls : List NestedKey}
/-! ### built-in functions -/
theorem ex_callB {id : String} {x : Str} {r : List V → Hp → VK → Prop} (hc : CallR X (.builtin id) r) (hg : Gl X x) (hm : X.mg x = none) (hv : bootBuiltins x = some (.builtin id)) (h : EA X C (e :: es) fun os M => RC X { C with M := M } r os P) (hn : x ≠ "__name__" := by decide) (hdb : (x == ("__debug__" : Str)) = false := by decide)
    (he : starEach (e :: es) X.env = (false, eval e X.env) :: starEach es X.env := by rfl) (hpl : (backTo pos (starEach es X.env)).any (·.1) = false := by rfl) : EX X C (.Call (.Name x p) (e :: es) [] pos) P := fun σ H A Q q =>
  we_of (pe_callB hc hg hm hv pa_w hn hdb he hpl) (h σ H A _ fun os M vs H1 p1 t1 A1 r1 => p1 σ H1 vs A1 r1 Q fun o M' v H' p' t' A' r' => q o M' v H' p' (t1.trans t') A' r')
theorem ex_callTy {T : String} {x : Str} {r : List V → Hp → VK → Prop} (hc : CallR X (.type T) r) (hg : Gl X x) (hm : X.mg x = none) (hv : bootBuiltins x = some (.type T)) (h : EA X C (e :: es) fun os M => RC X { C with M := M } r os P) (hn : x ≠ "__name__" := by decide) (hdb : (x == ("__debug__" : Str)) = false := by decide)
    (he : starEach (e :: es) X.env = (false, eval e X.env) :: starEach es X.env := by rfl) (hpl : (backTo pos (starEach es X.env)).any (·.1) = false := by rfl) : EX X C (.Call (.Name x p) (e :: es) [] pos) P := fun σ H A Q q =>
  we_of (pe_callTy hc hg hm hv pa_w hn hdb he hpl) (h σ H A _ fun os M vs H1 p1 t1 A1 r1 => p1 σ H1 vs A1 r1 Q fun o M' v H' p' t' A' r' => q o M' v H' p' (t1.trans t') A' r')
theorem obs1 {K : PySem.W.Frag} {H : Hp} {o : Ob} {vs : List V} (h : Obs K H [o] vs) : ∃ v, vs = [v] ∧ o.is K H v := by
  cases h with
  | cons h1 h2 => cases h2; exact ⟨_, rfl, h1⟩
theorem obs2 {K : PySem.W.Frag} {H : Hp} {o o' : Ob} {vs : List V} (h : Obs K H [o, o'] vs) : ∃ v v', vs = [v, v'] ∧ o.is K H v ∧ o'.is K H v' := by
  cases h with
  | cons h1 h2 => cases h2 with | cons h3 h4 => cases h4; exact ⟨_, _, rfl, h1, h3⟩
theorem ed_len (ha : ED X C e (.tup ks)) (hm : X.mg "len" = none) (hg : Gl X "len" := by rfl) (he : starEach [e] X.env = (false, eval e X.env) :: starEach [] X.env := by rfl) : ED X C (.Call (.Name "len" p) [e] [] pos) (.num ks.length) :=
  ex_callB call_len_seq hg hm PySem.boot_len (ea_cons (ha.ex (ea_nil fun σ H vs A r Q q => by
    obtain ⟨v, rfl, r1⟩ := obs1 r
    obtain ⟨a1, xs, rfl, hs, hd⟩ := Dv.tup_inv r1
    refine ⟨a1, xs, rfl, .inr hs, ?_⟩
    rw [hd.length]
    exact q _ _ _ H ⟨rfl, rfl⟩ (Tk.refl H) A (Dv.num _))) he) (he := he)
theorem ed_lenL {j : Nat} {l : Addr} {os : List Ob} (ha : ED X C e (.r l)) (hM : C.M[j]? = some (l, .l os)) (hm : X.mg "len" = none) (hg : Gl X "len" := by rfl) (he : starEach [e] X.env = (false, eval e X.env) :: starEach [] X.env := by rfl) : ED X C (.Call (.Name "len" p) [e] [] pos) (.num os.length) :=
  ex_callB call_len_seq hg hm PySem.boot_len (ea_cons (ha.ex (ea_nil fun σ H vs A r Q q => by
    obtain ⟨v, rfl, r1⟩ := obs1 r
    cases (show v = V.ref l from r1)
    obtain ⟨xs, e1, r2⟩ := A.at_ hM
    refine ⟨l, xs, rfl, .inl (SqL.of e1), ?_⟩
    rw [← r2.length]
    exact q _ _ _ H ⟨rfl, rfl⟩ (Tk.refl H) A (Dv.num _))) he) (he := he)
theorem ed_abs {i : Int} (ha : ED X C e (.num i)) (hm : X.mg "abs" = none) (hg : Gl X "abs" := by rfl) (he : starEach [e] X.env = (false, eval e X.env) :: starEach [] X.env := by rfl) : ED X C (.Call (.Name "abs" p) [e] [] pos) (.num (if i < 0 then -i else i)) :=
  ex_callB call_abs hg hm (by decide +kernel) (ea_cons (ha.ex (ea_nil fun σ H vs A r Q q => by
    obtain ⟨v, rfl, r1⟩ := obs1 r
    cases Dv.int_inv r1
    exact ⟨i, rfl, q _ _ _ H ⟨rfl, rfl⟩ (Tk.refl H) A (Dv.num _)⟩)) he) (he := he)
theorem ed_max {i j : Int} (hcm : X.calm = true) (ha : ED X C a (.num i)) (hb : ED X C b (.num j)) (hm : X.mg "max" = none) (hg : Gl X "max" := by rfl) (he : starEach [a, b] X.env = (false, eval a X.env) :: starEach [b] X.env := by rfl) (he2 : starEach [b] X.env = (false, eval b X.env) :: starEach [] X.env := by rfl) (hpl : (backTo pos (starEach [b] X.env)).any (·.1) = false := by rfl) : ED X C (.Call (.Name "max" p) [a, b] [] pos) (.num (if j > i then j else i)) :=
  ex_callB (call_max2 hcm) hg hm (by decide +kernel) (ea_cons (ha.ex (ea_cons (hb.ex (ea_nil fun σ H vs A r Q q => by
    obtain ⟨v, v', rfl, r1, r2⟩ := obs2 r
    cases Dv.int_inv r1
    cases Dv.int_inv r2
    exact ⟨i, j, rfl, q _ _ _ H ⟨rfl, rfl⟩ (Tk.refl H) A (Dv.num _)⟩)) he2)) he) (he := he) (hpl := hpl)
theorem ed_intB {k : Bool} (ha : ED X C e (.bl k)) (hm : X.mg "int" = none) (hg : Gl X "int" := by rfl) (he : starEach [e] X.env = (false, eval e X.env) :: starEach [] X.env := by rfl) : ED X C (.Call (.Name "int" p) [e] [] pos) (.num (if k then 1 else 0)) :=
  ex_callTy call_int1 hg hm (by decide +kernel) (ea_cons (ha.ex (ea_nil fun σ H vs A r Q q => by
    obtain ⟨v, rfl, r1⟩ := obs1 r
    cases (show v = V.bl k from r1)
    exact .inr ⟨k, rfl, q _ _ _ H ⟨rfl, rfl⟩ (Tk.refl H) A (Dv.num _)⟩)) he) (he := he)
/-- tuple(xs) of a list of data -/
theorem ex_tupleL (h : EX X C e fun o M => ∃ (l : Addr) (j : Nat) (ks : List NestedKey), o = .r l ∧ M[j]? = some (l, Mo.l (ks.map .d)) ∧ P (.tup ks) M) (hm : X.mg "tuple" = none) (hg : Gl X "tuple" := by rfl) (he : starEach [e] X.env = (false, eval e X.env) :: starEach [] X.env := by rfl) : EX X C (.Call (.Name "tuple" p) [e] [] pos) P :=
  ex_callTy call_tuple_of hg hm (by decide +kernel) (ea_cons (EX.mono h fun o M ⟨l, j, ks, eo, hM, pp⟩ => ea_nil fun σ H vs A r Q q => by
    subst eo
    obtain ⟨v, rfl, r1⟩ := obs1 r
    cases (show v = V.ref l from r1)
    obtain ⟨xs, e1, r2⟩ := A.at_ hM
    refine ⟨l, xs, rfl, .inl ⟨SqL.of e1, fun t ht => ?_⟩⟩
    have t2 : Tk H (upd H t (.tup xs)) := Tk.new ht
    exact q _ M _ _ pp t2 (A.tupNew ht) (Dv.tup (SqT.of upd_same) (Dvs.mono t2 _ _ (Obs.to_dvs r2)))) he) (he := he)
/-- the same of a list made just there -/
theorem ed_tupleN (h : EX X C e fun o M => ∃ l, o = .r l ∧ M = C.M ++ [(l, Mo.l (ks.map .d))]) (hm : X.mg "tuple" = none) (hg : Gl X "tuple" := by rfl) (he : starEach [e] X.env = (false, eval e X.env) :: starEach [] X.env := by rfl) : ED X C (.Call (.Name "tuple" p) [e] [] pos) (.tup ks) := fun σ H A Q q => by
  have h1 : EX X C (.Call (.Name "tuple" p) [e] [] pos) fun o M => o = .tup ks ∧ ∃ l, M = C.M ++ [(l, Mo.l (ks.map .d))] :=
    ex_tupleL (EX.mono h fun o M ⟨l, e1, e2⟩ => ⟨l, C.M.length, ks, e1, by rw [e2]; simp, rfl, l, e2⟩) hm hg he
  refine h1 σ H A Q fun o M v H' ⟨e1, l, e2⟩ t1 A1 r1 => ?_
  subst e1 e2
  exact q _ _ v H' ⟨rfl, rfl⟩ t1 (A1.sub (List.sublist_append_left _ _)) r1
/-- tuple(xs) of a list of the store -/
theorem ed_tupleS {l : Addr} {j : Nat} (h : ED X C e (.r l)) (hM : C.M[j]? = some (l, .l (ks.map .d))) (hm : X.mg "tuple" = none) (hg : Gl X "tuple" := by rfl) (he : starEach [e] X.env = (false, eval e X.env) :: starEach [] X.env := by rfl) : ED X C (.Call (.Name "tuple" p) [e] [] pos) (.tup ks) :=
  ex_tupleL (h.ex ⟨l, j, ks, rfl, hM, rfl, rfl⟩) hm hg he
/-- isinstance of data, by a built-in class -/
def tyN : NestedKey → String
  | .none => "NoneType"
  | .num _ => "int"
  | .text _ => "str"
  | .tup _ => "tuple"
theorem ed_isi {k : NestedKey} {T : String} {x : Str} {p2 : Pos} {r : Bool} (ha : ED X C e (.d k)) (hk : kitB (tyN k) T = some r) (hT : bootBuiltins x = some (.type T)) (hm2 : X.mg x = none) (hg2 : Gl X x) (hn : x ≠ "__name__") (hdb : (x == ("__debug__" : Str)) = false) (hm : X.mg "isinstance" = none) (hg : Gl X "isinstance" := by rfl) (he : starEach [e, .Name x p2] X.env = (false, eval e X.env) :: starEach [.Name x p2] X.env := by rfl) (he2 : starEach [.Name x p2] X.env = (false, eval (.Name x p2) X.env) :: starEach [] X.env := by rfl) (hpl : (backTo pos (starEach [.Name x p2] X.env)).any (·.1) = false := by rfl) :
    ED X C (.Call (.Name "isinstance" p) [e, .Name x p2] [] pos) (.bl r) := fun σ H A Q q =>
  we_of (pe_callB call_isi hg hm (by decide +kernel) (pa_cons pe_w (pa_cons (pe_bltn hg2 hm2 hT (v := .ty T) rfl hn hdb) pa_nil he2) he) (by decide) (by decide) he hpl) (ha σ H A _ fun o M v H' ⟨e1, e2⟩ t A' r1 => by
    subst e1 e2
    have ty : TyX X.K H' v (.type (tyN k)) := by
      cases k with
      | none => cases Dv.none_inv r1; exact .base .non
      | num i => cases Dv.int_inv r1; exact .base (.int i)
      | text z => cases Dv.str_inv r1; exact .base (.str z)
      | tup ks =>
        obtain ⟨a1, xs, rfl, hs, _⟩ := Dv.tup_inv r1
        rcases hs with (h1 | ⟨o, h1⟩) | ⟨o, its, n, h1, h2, _⟩
        · exact .base (.tup h1)
        · exact .fTuple h1
        · exact .kTuple h1 h2
    exact ⟨v, .ty T, .type (tyN k), .type T, r, rfl, .ty T, ty, kit_ty hk, q _ _ _ H' ⟨rfl, rfl⟩ t A' rfl⟩)
end
end Brd
namespace Brd
open PySem PySem.Spec PyProof.Rows L2

section
variable {w : World} {K : PySem.W.Frag} {C : Ct} {σ : L2.St} {H H' : Hp}
/-- behind a call that keeps all: new objects of the store -/
theorem At.called (A : At w K C σ H) {Mn : Ms} (kept : ∀ a x, H a = some x → H' a = some x) (hm : ∀ p ∈ Mn, p.2.is w K H' p.1) (nd : (Mn.map (·.1)).Nodup) (new : ∀ p ∈ Mn, H p.1 = none) : At w K { C with M := C.M ++ Mn } σ H' := by
  have t : Tk H H' := Tk.of_kept kept
  have old : ∀ p ∈ C.M, H' p.1 = H p.1 := fun p hp => by
    obtain ⟨o, e, _⟩ := (A.mo p hp).there
    rw [e]; exact kept _ _ e
  refine ⟨At.sl_mono t A.sl, fun p hp => ?_, ?_, fun a o e hw => kept _ _ (A.kp a o e hw), fun p hp => ?_, A.tk.trans t⟩
  · rcases List.mem_append.mp hp with hp | hp
    · exact (A.mo p hp).mono t (old p hp)
    · exact hm p hp
  · rw [List.map_append, List.nodup_append]
    refine ⟨A.nd, nd, fun x hx y hy e => ?_⟩
    obtain ⟨p, hp, rfl⟩ := List.mem_map.mp hx
    obtain ⟨q, hq, rfl⟩ := List.mem_map.mp hy
    exact A.no (new q hq) p hp e
  · rcases List.mem_append.mp hp with hp | hp
    · exact A.own p hp
    · exact A.fresh (new p hp)
/-- one object of the store changes -/
theorem At.change (A : At w K C σ H) {i : Nat} {a : Addr} {m m' : Mo} (h : C.M[i]? = some (a, m)) (kept : ∀ b x, H b = some x → b ≠ a → H' b = some x) (t : Tk H H') (hm : m'.is w K H' a) : At w K { C with M := C.M.set i (a, m') } σ H' := by
  have hi : i < C.M.length := (List.getElem?_eq_some_iff.mp h).1
  have hk : (C.M.set i (a, m')).map (·.1) = C.M.map (·.1) := by
    rw [List.map_set]
    have : (C.M.map (·.1))[i]? = some a := by rw [List.getElem?_map, h]; rfl
    exact List.ext_getElem? fun j => by
      by_cases hj : i = j
      · subst hj; rw [List.getElem?_set_self (List.getElem?_eq_some_iff.mp this).1, this]
      · rw [List.getElem?_set_ne hj]
  have old : ∀ p ∈ C.M, p.1 ≠ a → H' p.1 = H p.1 := fun p hp ne => by
    obtain ⟨o, e, _⟩ := (A.mo p hp).there
    rw [e]; exact kept _ _ e ne
  refine ⟨At.sl_mono t A.sl, fun q hq => ?_, by rw [hk]; exact A.nd, fun b ob e hw => ?_, fun q hq => ?_, A.tk.trans t⟩
  · obtain ⟨j, hj⟩ := List.mem_iff_getElem?.mp hq
    by_cases hij : i = j
    · subst hij
      have hj' : (C.M.set i (a, m'))[i]? = some q := hj
      rw [List.getElem?_set_self hi] at hj'
      cases hj'
      exact hm
    · have hj' : (C.M.set i (a, m'))[j]? = some q := hj
      rw [List.getElem?_set_ne hij] at hj'
      have ne : q.1 ≠ a := fun e => by
        have x1 : (C.M.map (·.1))[i]? = some a := by rw [List.getElem?_map, h]; rfl
        have x2 : (C.M.map (·.1))[j]? = some a := by rw [List.getElem?_map, hj', ← e]; rfl
        exact hij ((List.getElem?_inj (List.getElem?_eq_some_iff.mp x1).1 A.nd).mp (x1.trans x2.symm))
      exact (A.mo q (List.mem_of_getElem? hj')).mono t (old q (List.mem_of_getElem? hj') ne)
  · have nb : b ≠ a := fun z => by
      subst z
      rcases A.own (b, m) (List.mem_of_getElem? h) with z | z
      · exact hw z
      · rw [show C.H0 b = none from z] at e; cases e
    exact kept _ _ (A.kp b ob e hw) nb
  · have : q.1 ∈ (C.M.set i (a, m')).map (·.1) := List.mem_map.mpr ⟨q, hq, rfl⟩
    rw [hk] at this
    obtain ⟨r, hr, e⟩ := List.mem_map.mp this
    rw [← e]; exact A.own r hr
end

/-! ### own defs -/
/-- the def x keeps the promise, by at most level k (CX: what it may let out) -/
structure Kn (CX : CXT) (P : Program) (w : World) (K : PySem.W.Frag) (mg : Str → Option Value) (base : Heap) (x : Str) (ps : List Str) (k : Nat) (sp : Sp) : Prop where
  ex : ∃ f fd, FnOk P w K mg base CX k f fd ps sp ∧ mg x = some (.ref f) ∧ PySem.W.keepIn K (.ref f) = true ∧ Binds K fd ps []

section
variable {X : Cx} {C : Ct} {e a b c : Expr} {es : List Expr} {P P' : Pk} {o oa ob : Ob} {p pos pos' : Pos} {ks ls : List NestedKey}
variable {CX : CXT} {x : Str} {ps : List Str} {k : Nat} {R : List Ob → Ms → Pk → Prop} {RX : List Ob → Option Ob → Prop} {cn : Addr}
theorem ex_call (F : Kn CX X.prog X.w X.K X.mg X.base x ps k (spG X.w X.K R)) (hr : Room k X.A) (hx : Passes CX X E0) (h : EA X C (e :: es) fun os M1 => ∃ post, R os [] post ∧ ∀ o Mn, post o Mn → P o (M1 ++ Mn)) (hg : Gl X x := by rfl) (hdb : (x == ("__debug__" : Str)) = false := by decide)
    (he : starEach (e :: es) X.env = (false, eval e X.env) :: starEach es X.env := by rfl) (hpl : (backTo pos (starEach es X.env)).any (·.1) = false := by rfl) : EX X C (.Call (.Name x p) (e :: es) [] pos) P := fun σ H A Q q => by
  obtain ⟨f, fd, F1, F2, F3, F4⟩ := F.ex
  refine we_of (pe_call F1 hr hg F2 F3 F4 .nil hx pa_w hdb he hpl) (h σ H A _ fun os M1 vs H1 ⟨post, hR, hp⟩ t1 A1 r1 => ?_)
  show spG X.w X.K R (vs ++ []) H1 Q E0
  rw [List.append_nil]
  refine ⟨os, [], post, hR, r1, fun p hp => absurd hp List.not_mem_nil, List.nodup_nil, fun o M' v H' pp kept tk mo nd new r => ?_⟩
  have kept' : ∀ a x, H1 a = some x → H' a = some x := fun a x e => kept a x e List.not_mem_nil
  have new' : ∀ p ∈ M', H1 p.1 = none := fun p hp => (new p hp).elim (fun z => absurd z List.not_mem_nil) id
  exact q o _ v H' (hp o M' pp) (t1.trans tk) (A1.called kept' mo nd new') r
/-- one object of the store handed over, which the def changes -/
theorem ex_callD (F : Kn CX X.prog X.w X.K X.mg X.base x ps k (spG X.w X.K R)) (hr : Room k X.A) (hx : Passes CX X E0) (h : EA X C (e :: es) fun os M1 => ∃ i l m post, M1[i]? = some (l, m) ∧ R os [(l, m)] post ∧ ∀ o M', post o M' → ∃ m', M' = [(l, m')] ∧ P o (M1.set i (l, m'))) (hg : Gl X x := by rfl) (hdb : (x == ("__debug__" : Str)) = false := by decide)
    (he : starEach (e :: es) X.env = (false, eval e X.env) :: starEach es X.env := by rfl) (hpl : (backTo pos (starEach es X.env)).any (·.1) = false := by rfl) : EX X C (.Call (.Name x p) (e :: es) [] pos) P := fun σ H A Q q => by
  obtain ⟨f, fd, F1, F2, F3, F4⟩ := F.ex
  refine we_of (pe_call F1 hr hg F2 F3 F4 .nil hx pa_w hdb he hpl) (h σ H A _ fun os M1 vs H1 ⟨i, l, m, post, hM, hR, hp⟩ t1 A1 r1 => ?_)
  show spG X.w X.K R (vs ++ []) H1 Q E0
  rw [List.append_nil]
  refine ⟨os, [(l, m)], post, hR, r1, fun p hp => ?_, by simp, fun o M' v H' pp kept tk mo nd new r => ?_⟩
  · simp only [List.mem_singleton] at hp
    subst hp
    exact A1.at_ hM
  · obtain ⟨m', rfl, pp'⟩ := hp o M' pp
    exact q o _ v H' pp' (t1.trans tk) (A1.change hM (fun b x e ne => kept b x e (by simpa using ne)) tk (mo _ List.mem_cons_self)) r
/-- a def that may raise, here it does not -/
theorem ex_callX (F : Kn CX X.prog X.w X.K X.mg X.base x ps k (spX X.K cn RX)) (hr : Room k X.A) (hx : Passes CX X E0) (h : EA X C (e :: es) fun os M1 => ∃ o, RX os (some o) ∧ P o M1) (hg : Gl X x := by rfl) (hdb : (x == ("__debug__" : Str)) = false := by decide)
    (he : starEach (e :: es) X.env = (false, eval e X.env) :: starEach es X.env := by rfl) (hpl : (backTo pos (starEach es X.env)).any (·.1) = false := by rfl) : EX X C (.Call (.Name x p) (e :: es) [] pos) P := fun σ H A Q q => by
  obtain ⟨f, fd, F1, F2, F3, F4⟩ := F.ex
  refine we_of (pe_call F1 hr hg F2 F3 F4 .nil hx pa_w hdb he hpl) (h σ H A _ fun os M1 vs H1 ⟨o, hR, hp⟩ t1 A1 r1 => ?_)
  show spX X.K cn RX (vs ++ []) H1 Q E0
  rw [List.append_nil]
  refine ⟨os, some o, hR, r1, fun o' v H' e kept r => ?_, fun e => nomatch e⟩
  cases e
  have A2 := A1.called (Mn := []) kept (fun p hp => absurd hp List.not_mem_nil) List.nodup_nil (fun p hp => absurd hp List.not_mem_nil)
  rw [List.append_nil] at A2
  exact q o M1 v H' hp (t1.trans (Tk.of_kept kept)) A2 r
end

/-! ### what raises -/
abbrev Zx := WX × Addr
/-- the expression raises the class at z.2 -/
def ER (X : Cx) (z : Zx) (C : Ct) (e : Expr) : Prop := ∀ (σ : L2.St) (H : Hp), At X.w X.K C σ H → ∀ Q : VK, (∀ H', Tk H H' → At X.w X.K C σ H' → z.1 (.ref z.2) none σ H') → wE X e σ H Q
def ERA (X : Cx) (z : Zx) (C : Ct) (es : List Expr) : Prop := ∀ (σ : L2.St) (H : Hp), At X.w X.K C σ H → ∀ Q : List V → Hp → Prop, (∀ H', Tk H H' → At X.w X.K C σ H' → z.1 (.ref z.2) none σ H') → wA X es σ H Q
section
variable {X : Cx} {z : Zx} {C : Ct} {e a b c : Expr} {es : List Expr} {o : Ob} {p pos pos' : Pos} {x : Str} {ps : List Str} {k : Nat} {RX : List Ob → Option Ob → Prop}
theorem er_call {os : List Ob} (F : Kn (L2.CX X.prog X.w) X.prog X.w X.K X.mg X.base x ps k (spX X.K z.2 RX)) (hr : Room k X.A) (tk : Takes X z.1) (h : EDs X C (e :: es) os) (hR : RX os none) (hg : Gl X x := by rfl) (hdb : (x == ("__debug__" : Str)) = false := by decide)
    (he : starEach (e :: es) X.env = (false, eval e X.env) :: starEach es X.env := by rfl) (hpl : (backTo pos (starEach es X.env)).any (·.1) = false := by rfl) : ER X z C (.Call (.Name x p) (e :: es) [] pos) := fun σ H A Q q => by
  obtain ⟨f, fd, F1, F2, F3, F4⟩ := F.ex
  refine we_of (pe_callS F1 hr hg F2 F3 F4 (fun σ => passAt tk σ) pa_w hdb he hpl) (h σ H A _ fun os' M1 vs H1 ⟨e1, e2⟩ t1 A1 r1 => ?_)
  subst e1 e2
  refine ⟨os', none, hR, r1, fun _ _ _ e => (nomatch e), fun _ H' kept => ?_⟩
  have A2 := A1.called (Mn := []) kept (fun p hp => absurd hp List.not_mem_nil) List.nodup_nil (fun p hp => absurd hp List.not_mem_nil)
  rw [List.append_nil] at A2
  exact q H' (t1.trans (Tk.of_kept kept)) A2
theorem era_here (h : ER X z C e) (hs : starEach (e :: es) X.env = (false, eval e X.env) :: starEach es X.env := by rfl) : ERA X z C (e :: es) := fun σ H A Q q => wa_of (pa_cons pe_w pa_w hs) (h σ H A _ q)
theorem era_there (h : ED X C e o) (hr : ERA X z C es) (hs : starEach (e :: es) X.env = (false, eval e X.env) :: starEach es X.env := by rfl) : ERA X z C (e :: es) := fun σ H A Q q =>
  wa_of (pa_cons pe_w pa_w hs) (h σ H A _ fun o' M v H1 ⟨e1, e2⟩ t1 A1 r1 => by
    subst e1 e2
    exact hr σ H1 A1 _ fun H' t A' => q H' (t1.trans t) A')
theorem er_tup {n : Nat} (h : ERA X z C es) : ER X z C (.Tuple es n pos) := fun σ H A Q q => we_of (pe_tup pa_w) (h σ H A _ q)
end

/-! ### blocks -/
structure AE where
  nx : Gm → Ms → Prop
  rt : Pk
  bk : Gm → Ms → Prop := fun _ _ => False
  ct : Gm → Ms → Prop := fun _ _ => False
  rs : Gm → Ms → Prop := fun _ _ => False
structure Cz (w : World) (K : PySem.W.Frag) (W : List Addr) (H0 : Hp) (z : Zx) (ae : AE) (D : Ends) (Hs : Hp) : Prop where
  nx : ∀ G M σ H, ae.nx G M → Tk Hs H → At w K ⟨W, H0, G, M⟩ σ H → D.nx σ H
  rt : ∀ o M G σ v H, ae.rt o M → Tk Hs H → At w K ⟨W, H0, G, M⟩ σ H → o.is K H v → D.rt v H
  bk : ∀ G M σ H, ae.bk G M → Tk Hs H → At w K ⟨W, H0, G, M⟩ σ H → D.bk σ H
  ct : ∀ G M σ H, ae.ct G M → Tk Hs H → At w K ⟨W, H0, G, M⟩ σ H → D.ct σ H
  rs : ∀ G M σ H, ae.rs G M → Tk Hs H → At w K ⟨W, H0, G, M⟩ σ H → z.1 (.ref z.2) none σ H
theorem Cz.after {w : World} {K : PySem.W.Frag} {W : List Addr} {H0 : Hp} {z : Zx} {ae : AE} {D : Ends} {Hs H1 : Hp} (h : Cz w K W H0 z ae D Hs) (t : Tk Hs H1) : Cz w K W H0 z ae D H1 :=
  ⟨fun G M σ H q t2 A => h.nx G M σ H q (t.trans t2) A, fun o M G σ v H q t2 A r => h.rt o M G σ v H q (t.trans t2) A r, fun G M σ H q t2 A => h.bk G M σ H q (t.trans t2) A, fun G M σ H q t2 A => h.ct G M σ H q (t.trans t2) A, fun G M σ H q t2 A => h.rs G M σ H q (t.trans t2) A⟩
def SO (X : Cx) (z : Zx) (C : Ct) (sts : List Stmt) (ae : AE) : Prop := ∀ D (σ : L2.St) (H : Hp), Cz X.w X.K C.W C.H0 z ae D H → At X.w X.K C σ H → wSs X sts D σ H
/-- storing into targets -/
def GO (X : Cx) (C : Ct) (tg : Expr) (o : Ob) (P : Gm → Prop) : Prop := ∀ (σ : L2.St) (H : Hp) (v : V), At X.w X.K C σ H → o.is X.K H v → ∀ Q : L2.St → Hp → Prop, (∀ G σ' H', P G → Tk H H' → At X.w X.K { C with G := G } σ' H' → Q σ' H') → wG X tg v σ H Q
def GOs (X : Cx) (C : Ct) (tgs : List Expr) (ks : List NestedKey) (P : Gm → Prop) : Prop := ∀ (σ : L2.St) (H : Hp) (vs : List V), At X.w X.K C σ H → Dvs X.K H ks vs → ∀ Q : L2.St → Hp → Prop, (∀ G σ' H', P G → Tk H H' → At X.w X.K { C with G := G } σ' H' → Q σ' H') → wGs X tgs vs σ H Q
section
variable {X : Cx} {z : Zx} {C : Ct} {e a b c : Expr} {es tgs : List Expr} {o : Ob} {p pos pos' : Pos} {x : Str} {rest body orelse : List Stmt} {ae : AE} {tg : Expr} {ks : List NestedKey} {Pg : Gm → Prop}
theorem so_nil (h : ae.nx C.G C.M) : SO X z C [] ae := fun D σ H hD A => ws_of pss_nil (hD.nx _ _ _ _ h (Tk.refl H) A)
theorem so_asg (i : Nat) (h : EX X C e fun o M => SO X z { C with G := C.G.set i (some o), M := M } rest ae) (hN : X.N.Nodup) (hi : X.N[i]? = some x := by rfl) (hx : Loc X.env.scope x := by first | exact Or.inl rfl | exact Or.inr rfl)
    (hs : swapsWith e (some (.Name x pos')) pos.line X.env = pure false := by rfl) (hf : X.fn x = true ∨ X.env.scope.names.lookup x = some .local := by first | exact .inl rfl | exact .inr rfl) : SO X z C (.Assign [.Name x pos'] e pos :: rest) ae := fun D σ H hD A =>
  ws_cons (ps_set hN hi hx pe_w hs hf) (h σ H A _ fun o M v H' p t A' r => p D _ _ (hD.after t) (A'.set i r))
theorem so_ret (h : EX X C e fun o M => ae.rt o M) : SO X z C (.Return (some e) pos :: rest) ae := fun D σ H hD A =>
  ws_cons (ps_ret pe_w) (h σ H A _ fun o M v H' p t A' r => hD.rt o M _ σ v H' p t A' r)
theorem so_expr (h : EX X C e fun _ M => SO X z { C with M := M } rest ae) (hs : swapsWith e none pos.line X.env = pure false := by rfl) : SO X z C (.Expr e pos :: rest) ae := fun D σ H hD A =>
  ws_cons (ps_expr pe_w hs) (h σ H A _ fun o M v H' p t A' r => p D _ _ (hD.after t) A')
theorem so_if (h : ET X C c fun k M => if k = true then SO X z { C with M := M } body { ae with nx := fun G M => SO X z ⟨C.W, C.H0, G, M⟩ rest ae } else SO X z { C with M := M } orelse { ae with nx := fun G M => SO X z ⟨C.W, C.H0, G, M⟩ rest ae }) : SO X z C (.If c body orelse pos :: rest) ae := fun D σ H hD A =>
  ws_cons (ps_if pt_w pss_w pss_w) (h σ H A _ fun k M H' p t A' => by
    have hD1 := hD.after t
    have hD' : Cz X.w X.K C.W C.H0 z { ae with nx := fun G M => SO X z ⟨C.W, C.H0, G, M⟩ rest ae } { D with nx := wSs X rest D } H' := ⟨fun G M σ H q t2 A => q D σ H (hD1.after t2) A, hD1.rt, hD1.bk, hD1.ct, hD1.rs⟩
    cases k with
    | true => exact iteT (p _ σ H' hD' A')
    | false => exact iteF (p _ σ H' hD' A'))
/-- the test known -/
theorem so_ifK {k : Bool} (h : EB X C c k) (h1 : k = true → SO X z C body { ae with nx := fun G M => SO X z ⟨C.W, C.H0, G, M⟩ rest ae }) (h2 : k = false → SO X z C orelse { ae with nx := fun G M => SO X z ⟨C.W, C.H0, G, M⟩ rest ae }) : SO X z C (.If c body orelse pos :: rest) ae :=
  so_if (h.ex (by cases k with
    | true => exact iteT (h1 rfl)
    | false => exact iteF (h2 rfl)))
theorem so_ifT (h : EB X C c true) (h1 : SO X z C body { ae with nx := fun G M => SO X z ⟨C.W, C.H0, G, M⟩ rest ae }) : SO X z C (.If c body orelse pos :: rest) ae := so_ifK h (fun _ => h1) fun e => nomatch e
/-- not so, and nothing else to do -/
theorem so_ifF (h : EB X C c false) (h2 : SO X z C rest ae) : SO X z C (.If c body [] pos :: rest) ae := so_ifK h (fun e => nomatch e) fun _ => so_nil h2
theorem so_cont (h : ae.ct C.G C.M) : SO X z C (.Continue pos :: rest) ae := fun D σ H hD A => ws_cons ps_continue (hD.ct _ _ _ _ h (Tk.refl H) A)
theorem so_drop {M : Ms} (h : SO X z { C with M := M } rest ae) (hs : List.Sublist M C.M) : SO X z C rest ae := fun D σ H hD A => h D σ H hD (A.sub hs)
theorem SO.mono {ae' : AE} (h : SO X z C body ae) (h1 : ∀ G M, ae.nx G M → ae'.nx G M) (h2 : ∀ o M, ae.rt o M → ae'.rt o M) (h3 : ∀ G M, ae.bk G M → ae'.bk G M) (h4 : ∀ G M, ae.ct G M → ae'.ct G M) (h5 : ∀ G M, ae.rs G M → ae'.rs G M) : SO X z C body ae' := fun D σ H hD A =>
  h D σ H ⟨fun G M σ H q t A => hD.nx G M σ H (h1 G M q) t A, fun o M G σ v H q t A r => hD.rt o M G σ v H (h2 o M q) t A r, fun G M σ H q t A => hD.bk G M σ H (h3 G M q) t A, fun G M σ H q t A => hD.ct G M σ H (h4 G M q) t A, fun G M σ H q t A => hD.rs G M σ H (h5 G M q) t A⟩ A
/-- targets -/
theorem go_name (i : Nat) (h : Pg (C.G.set i (some o))) (hN : X.N.Nodup) (hi : X.N[i]? = some x := by rfl) (hx : Loc X.env.scope x := by first | exact Or.inl rfl | exact Or.inr rfl) (hf : X.fn x = true ∨ X.env.scope.names.lookup x = some .local := by first | exact .inl rfl | exact .inr rfl) : GO X C (.Name x pos) o Pg := fun σ H v A r Q q =>
  wg_of (pg_name hN hi hx hf) (q _ _ _ h (Tk.refl H) (A.set i r))
theorem gos_nil (h : Pg C.G) : GOs X C [] [] Pg := fun σ H vs A r Q q => by
  cases r
  exact wgs_of pgs_nil ⟨rfl, q _ _ _ h (Tk.refl H) A⟩
theorem gos_cons {k : NestedKey} (h : GO X C tg (.d k) fun G => GOs X { C with G := G } tgs ks Pg) (hs : (assignEach (tg :: tgs) X.env).map (·.2) = assign tg X.env :: (assignEach tgs X.env).map (·.2) := by rfl) : GOs X C (tg :: tgs) (k :: ks) Pg := fun σ H vs A r Q q => by
  cases r with
  | @cons _ v _ vs' r1 r2 =>
    exact wgs_of (pgs_cons pg_w pgs_w hs) ⟨v, vs', rfl, h σ H v A r1 _ fun G σ' H' p t A' => p σ' H' vs' A' (Dvs.mono t _ _ r2) _ fun G' σ2 H2 p2 t2 A2 => q G' σ2 H2 p2 (t.trans t2) A2⟩
theorem go_tup {n : Nat} (hc : X.calm = true) (h : GOs X C tgs ks Pg) (hn : (assignEach tgs X.env).length = ks.length := by rfl) (hst : (assignEach tgs X.env).findIdx? (·.1) = none := by rfl) : GO X C (.Tuple tgs n pos) (.tup ks) Pg := fun σ H v A r Q q => by
  obtain ⟨a1, xs, rfl, hs, hd⟩ := Dv.tup_inv r
  exact wg_of (pg_tup hc pgs_w hn hst) ⟨a1, xs, rfl, hs, hd.length, h σ H xs A hd Q q⟩
theorem so_asgG (h : EX X C e fun o M => GO X { C with M := M } tg o fun G => SO X z { C with G := G, M := M } rest ae) (hs : swapsWithSole [tg] e pos.line X.env = pure false := by rfl) (hw : swappedStores [tg] e X.env = pure none := by rfl)
    (h1 : (assignEach [tg] X.env).map (·.2) = [assign tg X.env] := by rfl) : SO X z C (.Assign [tg] e pos :: rest) ae := fun D σ H hD A =>
  ws_cons (ps_asg pe_w pg_w hs hw h1) (h σ H A _ fun o M v H' p t A' r => p σ H' v A' r _ fun G σ' H2 q t2 A2 => q D σ' H2 (hD.after (t.trans t2)) A2)
end
end Brd
namespace Brd
open PySem PySem.Spec PyProof.Rows L2

section
variable {X : Cx} {z : Zx} {C : Ct} {e a b c : Expr} {es tgs : List Expr} {P : Pk} {o : Ob} {p pos pos' apos : Pos} {x : Str} {rest body orelse : List Stmt} {ae : AE} {tg : Expr} {ks ls : List NestedKey}
/-! ### lists of the store: append, pop, store -/
theorem ex_append (h : EX X C a fun o1 M1 => ∃ (l : Addr) (j : Nat) (xs0 : List Ob), o1 = .r l ∧ M1[j]? = some (l, Mo.l xs0) ∧ EA X { C with M := M1 } [e] fun os M2 => ∃ (j2 : Nat) (xs : List Ob) (ov : Ob), os = [ov] ∧ M2[j2]? = some (l, Mo.l xs) ∧ xs.length < sizeLine ∧ P (.d .none) (M2.set j2 (l, Mo.l (xs ++ [ov]))))
    (hbase : attributeBase a "append" X.env (eval a X.env) = eval a X.env := by rfl)
    (hfew : ((backTo pos (starEach (e :: []) X.env)).all (fun x => !x.1) && (backToKw pos (keywordEach [] X.env)).all (fun x => x.1.isSome)
      && decide ((e :: []).length + ([] : List Keyword).length + (if ([] : List Keyword).isEmpty then 0 else 1) < 30)) = true := by rfl)
    (hline : (apos.endLine == pos.line) = true := by rfl) (hs : starEach (e :: []) X.env = (false, eval e X.env) :: starEach [] X.env := by rfl) : EX X C (.Call (.Attribute a "append" apos) [e] [] pos) P := fun σ H A Q q =>
  we_of (pe_bm PySem.F.plainAttrs_list PySem.F.slot_list_append PySem.F.type_list_append mt_append pe_w pa_w hbase hfew hline hs) (h σ H A _ fun o1 M1 v H1 ⟨l, j, xs0, e1, hM, h2⟩ t1 A1 r1 => by
    subst e1
    cases (show v = V.ref l from r1)
    obtain ⟨vs0, q1, q2⟩ := A1.at_ hM
    refine ⟨.inl ⟨rfl, _, SqL.of q1⟩, h2 σ H1 A1 _ fun os M2 us H2 ⟨j2, xs, ov, e2, hM2, hl, pp⟩ t2 A2 r2 => ?_⟩
    subst e2
    obtain ⟨u, rfl, ru⟩ := obs1 r2
    obtain ⟨vs, w1, w2⟩ := A2.at_ hM2
    refine ⟨l, vs, u, rfl, rfl, w1, by rw [← w2.length]; exact hl, ?_⟩
    obtain ⟨A3, t3⟩ := A2.write (m' := .l (xs ++ [ov])) (u := .lst (vs ++ [u])) hM2 fun t => ⟨_, upd_same, (w2.append (.cons ru .nil)).mono t⟩
    exact q _ _ _ _ pp ((t1.trans t2).trans t3) A3 Dv.none)
theorem ex_pop (h : EX X C a fun o1 M1 => ∃ (l : Addr) (j : Nat) (xs : List Ob) (ov : Ob), o1 = .r l ∧ M1[j]? = some (l, Mo.l xs) ∧ xs[xs.length - 1]? = some ov ∧ P ov (M1.set j (l, Mo.l xs.dropLast)))
    (hbase : attributeBase a "pop" X.env (eval a X.env) = eval a X.env := by rfl) (hline : (apos.endLine == pos.line) = true := by rfl) : EX X C (.Call (.Attribute a "pop" apos) [] [] pos) P := fun σ H A Q q =>
  we_of (pe_bm0 PySem.F.plainAttrs_list PySem.F.slot_list_pop PySem.F.type_list_pop mt_pop pe_w hbase hline) (h σ H A _ fun o1 M1 v H1 ⟨l, j, xs, ov, e1, hM, hx, pp⟩ t1 A1 r1 => by
    subst e1
    cases (show v = V.ref l from r1)
    obtain ⟨vs, w1, w2⟩ := A1.at_ hM
    have hx' : xs[vs.length - 1]? = some ov := by rw [← w2.length]; exact hx
    obtain ⟨u, hu, ru⟩ := w2.get hx'
    refine ⟨.inl ⟨rfl, _, SqL.of w1⟩, l, vs, u, rfl, rfl, w1, hu, ?_⟩
    obtain ⟨A3, t3⟩ := A1.write (m' := .l xs.dropLast) (u := .lst vs.dropLast) hM fun t => ⟨_, upd_same, (w2.dropLast).mono t⟩
    exact q _ _ _ _ pp (t1.trans t3) A3 (ru.mono t3))
theorem so_setL {k1 : Pos} (h : EX X C e fun o M => EX X { C with M := M } a fun o1 M1 => EX X { C with M := M1 } b fun o2 M2 => ∃ (l : Addr) (j : Nat) (xs : List Ob) (i : Int) (n : Nat), o1 = .r l ∧ o2 = .num i ∧ M2[j]? = some (l, Mo.l xs) ∧ ixN xs.length i = some n ∧ SO X z { C with M := M2.set j (l, Mo.l (xs.set n o)) } rest ae)
    (hs : swapsWithSole [.Subscript a b k1] e pos.line X.env = pure false := by rfl) (hw : swappedStores [.Subscript a b k1] e X.env = pure none := by rfl)
    (h1 : (assignEach [.Subscript a b k1] X.env).map (·.2) = [assign (.Subscript a b k1) X.env] := by rfl)
    (ha : ∀ v, assign (.Subscript a b k1) X.env v = (do
      let ov ← holding [v] (eval a X.env)
      let iv ← holding [v, ov] (eval b X.env)
      standAt k1
      holding [v, ov, iv] (setItem ov iv v)
      release [v, ov, iv] []) := by intro _; rfl) : SO X z C (.Assign [.Subscript a b k1] e pos :: rest) ae := fun D σ H hD A =>
  ws_cons (ps_asg pe_w (pg_sub pe_w pe_w set_list ha) hs hw h1) (h σ H A _ fun o M v H1 p1 t1 A1 r1 => p1 σ H1 A1 _ fun o1 M1 v1 H2 p2 t2 A2 r2 => p2 σ H2 A2 _ fun o2 M2 v2 H3 ⟨l, j, xs, i, n, e1, e2, hM, hn, pp⟩ t3 A3 r3 => by
    subst e1 e2
    cases (show v1 = V.ref l from r2)
    cases Dv.int_inv r3
    obtain ⟨vs, w1, w2⟩ := A3.at_ hM
    obtain ⟨A4, t4⟩ := A3.write (m' := .l (xs.set n o)) (u := .lst (vs.set n v)) hM fun t => ⟨_, upd_same, (w2.set ((r1.mono t2).mono t3) n).mono t⟩
    exact ⟨l, vs, i, n, rfl, rfl, w1, by rw [← w2.length]; exact hn, pp D _ _ (hD.after (((t1.trans t2).trans t3).trans t4)) A4⟩)
/-! ### in, not in -/
theorem inV_strs (x : Str) : ∀ ss : List Str, inV (.str x) (ss.map V.str) = decide (x ∈ ss)
  | [] => rfl
  | s :: ss => by
    have ih := inV_strs x ss
    unfold inV at ih ⊢
    rw [List.map_cons, List.any_cons, ih]
    have e : eqV (.str s) (.str x) = (s == x) := rfl
    rw [e, Bool.eq_iff_iff]
    simp only [Bool.or_eq_true, beq_iff_eq, decide_eq_true_eq, List.mem_cons]
    constructor
    · rintro (h | h)
      · exact .inl h.symm
      · exact .inr h
    · rintro (h | h)
      · exact .inl h.symm
      · exact .inr h
theorem inV_ints (x : Int) : ∀ ss : List Int, inV (.int x) (ss.map V.int) = decide (x ∈ ss)
  | [] => rfl
  | s :: ss => by
    have ih := inV_ints x ss
    unfold inV at ih ⊢
    rw [List.map_cons, List.any_cons, ih]
    have e : eqV (.int s) (.int x) = (s == x) := rfl
    rw [e, Bool.eq_iff_iff]
    simp only [Bool.or_eq_true, beq_iff_eq, decide_eq_true_eq, List.mem_cons]
    constructor
    · rintro (h | h)
      · exact .inl h.symm
      · exact .inr h
    · rintro (h | h)
      · exact .inl h.symm
      · exact .inr h
theorem dvs_strs {K : PySem.W.Frag} {H : Hp} : ∀ {ss : List Str} {vs : List V}, Dvs K H (ss.map .text) vs → vs = ss.map V.str
  | [], _, h => by cases h; rfl
  | s :: ss, _, h => by cases h with | cons h1 h2 => rw [h1.str_inv, dvs_strs h2]; rfl
theorem dvs_of_strs {K : PySem.W.Frag} {H : Hp} : ∀ (ss : List Str), Dvs K H (ss.map .text) (ss.map V.str)
  | [] => .nil
  | s :: ss => .cons (.text s) (dvs_of_strs ss)
theorem flat_strs (ss : List Str) : (ss.map V.str).all flatV = true := by
  rw [List.all_map, List.all_eq_true]; intro _ _; rfl
theorem flat_ints (ss : List Int) : (ss.map V.int).all flatV = true := by
  rw [List.all_map, List.all_eq_true]; intro _ _; rfl
theorem eb_notInS {x : Str} {ss : List Str} (ha : ED X C a (.text x)) (hb : ED X C b (.tup (ss.map .text))) (hm : behindInMarks .NotIn b = false := by first | exact nomark _ | rfl) : EB X C (.Compare a [.NotIn] [b] pos) (!decide (x ∈ ss)) := et_cmp op_notIn_seq (ha.ex (hb.ex fun σ H u v A r1 r2 Q q => by
  cases Dv.str_inv r1
  obtain ⟨a1, xs, rfl, hs, hd⟩ := Dv.tup_inv r2
  rw [dvs_strs hd] at hs
  refine ⟨a1, _, rfl, .inr hs, rfl, flat_strs ss, ?_⟩
  rw [inV_strs]
  exact q _ _ _ H ⟨_, rfl, rfl, rfl⟩ (Tk.refl H) A rfl)) hm
theorem eb_notInI {x : Int} {ss : List Int} (ha : ED X C a (.num x)) (hb : ED X C b (.tup (ss.map .num))) (hm : behindInMarks .NotIn b = false := by first | exact nomark _ | rfl) : EB X C (.Compare a [.NotIn] [b] pos) (!decide (x ∈ ss)) := et_cmp op_notIn_seq (ha.ex (hb.ex fun σ H u v A r1 r2 Q q => by
  cases Dv.int_inv r1
  obtain ⟨a1, xs, rfl, hs, hd⟩ := Dv.tup_inv r2
  rw [Dvs.ints_inv hd] at hs
  refine ⟨a1, _, rfl, .inr hs, rfl, flat_ints ss, ?_⟩
  rw [inV_ints]
  exact q _ _ _ H ⟨_, rfl, rfl, rfl⟩ (Tk.refl H) A rfl)) hm
/-- t.index(x), t a written tuple of texts -/
theorem ed_indexS {x : Str} {ss : List Str} {j : Nat} {t : Addr} (ha : ED X C a (.r t)) (hT : ∀ H, SqT X.K H t (ss.map V.str)) (hty : ∀ H, tyV X.K "tuple" (.ref t) H) (hb : ED X C e (.text x)) (hj : ss[j]? = some x) (hno : ∀ m, m < j → ss[m]? ≠ some x)
    (hbase : attributeBase a "index" X.env (eval a X.env) = eval a X.env := by rfl)
    (hfew : ((backTo pos (starEach (e :: []) X.env)).all (fun x => !x.1) && (backToKw pos (keywordEach [] X.env)).all (fun x => x.1.isSome)
      && decide ((e :: []).length + ([] : List Keyword).length + (if ([] : List Keyword).isEmpty then 0 else 1) < 30)) = true := by rfl)
    (hline : (apos.endLine == pos.line) = true := by rfl) (hs : starEach (e :: []) X.env = (false, eval e X.env) :: starEach [] X.env := by rfl) : ED X C (.Call (.Attribute a "index" apos) [e] [] pos) (.num j) := fun σ H A Q q =>
  we_of (pe_bm PySem.F.plainAttrs_tuple PySem.F.slot_tuple_index PySem.F.type_tuple_index mt_tup_index pe_w pa_w hbase hfew hline hs) (ha σ H A _ fun o1 M1 v H1 ⟨e1, e2⟩ t1 A1 r1 => by
    subst e1 e2
    cases (show v = V.ref t from r1)
    refine ⟨hty H1, EDs.ex (eds_cons hb eds_nil hs) (P := fun os M => os = [.text x] ∧ M = C.M) ⟨rfl, rfl⟩ σ H1 A1 _ fun os M2 us H2 ⟨e3, e4⟩ t2 A2 r2 => ?_⟩
    subst e3 e4
    obtain ⟨u, rfl, ru⟩ := obs1 r2
    cases Dv.str_inv ru
    exact ⟨t, ss, x, j, rfl, rfl, hT H2, hj, hno, q _ _ _ H2 ⟨rfl, rfl⟩ (t1.trans t2) A2 (Dv.num _)⟩)
/-- 0 <= a <= b, 0 <= a < b, as values -/
theorem ed_chain {op1 op2 : CmpOp} {g1 g2 : Int → Int → Bool} {i j k : Int} (ho1 : OpR X (compareOp op1) (rI0 fun i j => .bl (g1 i j))) (ho2 : OpR X (compareOp op2) (rI0 fun i j => .bl (g2 i j))) (ha : ED X C a (.num i)) (hb : ED X C b (.num j)) (hc : ED X C c (.num k)) (hm : lastMarks [op1, op2] [b, c] = false := by with_unfolding_all rfl) :
    ED X C (.Compare a [op1, op2] [b, c] pos) (.bl (g1 i j && g2 j k)) := fun σ H A Q q =>
  we_of (pe_chain ho1 ho2 pe_w pe_w pe_w hm) (ha σ H A _ fun o1 M1 v1 H1 ⟨e1, e2⟩ t1 A1 r1 => by
    subst e1 e2
    cases Dv.int_inv r1
    exact hb σ H1 A1 _ fun o2 M2 v2 H2 ⟨e3, e4⟩ t2 A2 r2 => by
      subst e3 e4
      cases Dv.int_inv r2
      refine ⟨i, j, rfl, rfl, g1 i j, rfl, ?_⟩
      cases hg : g1 i j with
      | false => exact iteF (q (.bl (g1 i j && g2 j k)) _ _ H2 ⟨rfl, rfl⟩ (t1.trans t2) A2 (by rw [hg]; rfl))
      | true =>
        refine iteT (hc σ H2 A2 _ fun o3 M3 v3 H3 ⟨e5, e6⟩ t3 A3 r3 => ?_)
        subst e5 e6
        cases Dv.int_inv r3
        exact ⟨j, k, rfl, rfl, q (.bl (g1 i j && g2 j k)) _ _ H3 ⟨rfl, rfl⟩ ((t1.trans t2).trans t3) A3 (by rw [hg]; rfl)⟩)
/-- xs != [] -/
theorem dp_ints {K : PySem.W.Frag} {H : Hp} : ∀ ns : List Int, DpAll K H (ns.map V.int) (ns.map PyData.int)
  | [] => .nil
  | n :: ns => .cons (.int n) (dp_ints ns)
theorem lay_ints : ∀ ns : List Int, PyData.canLayAll0 (ns.map PyData.int) = true
  | [] => by simp [PyData.canLayAll0]
  | n :: ns => by simp [PyData.canLayAll0, PyData.canLay0, lay_ints ns]
theorem dep_ints : ∀ ns : List Int, PyData.depthAll (ns.map PyData.int) = 0
  | [] => by simp [PyData.depthAll]
  | n :: ns => by simp [PyData.depthAll, PyData.depth, dep_ints ns]
theorem shaped_ints (ns : List Int) : SeqAt.shaped (.list (ns.map PyData.int)) = true := by
  show (PyData.canLay0 (.list (ns.map PyData.int)) && decide (PyData.depth (.list (ns.map PyData.int)) ≤ 64)) = true
  simp [PyData.canLay0, PyData.depth, lay_ints, dep_ints]
theorem obs_ints {K : PySem.W.Frag} {H : Hp} : ∀ {ns : List Int} {vs : List V}, Obs K H (ns.map .num) vs → vs = ns.map V.int
  | [], _, h => by cases h; rfl
  | n :: ns, _, h => by cases h with | cons h1 h2 => rw [Dv.int_inv h1, obs_ints h2]; rfl
theorem eqv_nil : ∀ ns : List Int, PyData.eqv (.list (ns.map PyData.int)) (.list []) = ns.isEmpty
  | [] => by simp [PyData.eqv, PyData.eqvAll]
  | n :: ns => by simp [PyData.eqv, PyData.eqvAll]
theorem eb_neNil {l : Addr} {j : Nat} {ns : List Int} {p2 : Pos} (hu : X.A.units + 64 < cLine) (ha : ED X C a (.r l)) (hM : C.M[j]? = some (l, .l (ns.map .num))) : EB X C (.Compare a [.NotEq] [.List [] p2] pos) (!ns.isEmpty) := fun σ H A Q q =>
  wt_of (pt_cmpR (op_neD hu) pe_w (pe_lst pa_nil) (nomark _)) (ha σ H A _ fun o1 M1 v1 H1 ⟨e1, e2⟩ t1 A1 r1 => by
    subst e1 e2
    cases (show v1 = V.ref l from r1)
    refine ⟨Nat.zero_le _, fun pp hp => ?_⟩
    have t2 : Tk H1 (upd H1 pp (.lst [])) := Tk.new hp
    have A2 := (A1.moNew (m := .l []) hp ⟨[], upd_same, .nil⟩).sub (List.sublist_append_left _ _)
    obtain ⟨vs, w1, w2⟩ := A2.at_ hM
    rw [obs_ints w2] at w1
    refine ⟨.list (ns.map PyData.int), .list [], .lst (SqL.of w1) (dp_ints ns), .lst (SqL.of upd_same) .nil, shaped_ints ns, shaped_ints [], _, rfl, ?_⟩
    rw [eqv_nil]
    exact q _ _ _ ⟨rfl, rfl⟩ (t1.trans t2) A2)

/-! ### loops -/
/-- the ends of a loop's body -/
def lpE (X : Cx) (z : Zx) (C : Ct) (rest : List Stmt) (ae : AE) (W : Gm → Ms → Prop) : AE := { ae with nx := W, ct := W, bk := fun G M => SO X z ⟨C.W, C.H0, G, M⟩ rest ae }
theorem lpE_cz {W : Gm → Ms → Prop} {Pv : L2.St → Hp → Prop} {D : Ends} {H1 H2 : Hp} (hD : Cz X.w X.K C.W C.H0 z ae D H1) (tt : Tk H1 H2) (h : ∀ G M σ H, W G M → Tk H1 H → At X.w X.K ⟨C.W, C.H0, G, M⟩ σ H → Pv σ H) :
    Cz X.w X.K C.W C.H0 z (lpE X z C rest ae W) { D with nx := Pv, ct := Pv, bk := wSs X rest D } H2 :=
  ⟨fun G M σ H q t A => h G M σ H q (tt.trans t) A, fun o M G σ v H q t A r => hD.rt o M G σ v H q (tt.trans t) A r, fun G M σ H q t A => q D σ H (hD.after (tt.trans t)) A, fun G M σ H q t A => h G M σ H q (tt.trans t) A, fun G M σ H q t A => hD.rs G M σ H q (tt.trans t) A⟩
/-- for target in a tuple of data -/
theorem so_forT (hp : PassesOwn (model X.prog X.w) X.A X.env X.xe) (hc : X.calm = true) (he : ED X C e (.tup ks)) (Wv : Nat → Gm → Ms → Prop) (h0 : Wv 0 C.G C.M)
    (hs : ∀ i k G M, ks[i]? = some k → Wv i G M → GO X ⟨C.W, C.H0, G, M⟩ tg (.d k) fun G' => SO X z ⟨C.W, C.H0, G', M⟩ body (lpE X z C rest ae (Wv (i + 1))))
    (hd : ∀ G M, Wv ks.length G M → SO X z ⟨C.W, C.H0, G, M⟩ rest ae) (hf : ∀ x, foldedSetIterable e X.env x = pure x := by intro _; rfl) : SO X z C (.For tg e body [] pos :: rest) ae := fun D σ H hD A =>
  ws_cons (ps_for hp hc (pi_tup pe_w) pg_w pss_w hf) (he σ H A _ fun o M v H1 ⟨e1, e2⟩ t1 A1 r1 => by
    subst e1 e2
    have hD1 := hD.after t1
    obtain ⟨a1, xs, rfl, hsq, hd1⟩ := Dv.tup_inv r1
    refine ⟨a1, rfl, ⟨xs, hsq⟩, for_tup (K := X.K) (a := a1) (xs := xs) (fun i σ' H' => Tk H1 H' ∧ ∃ G M, Wv i G M ∧ At X.w X.K ⟨C.W, C.H0, G, M⟩ σ' H') ⟨Tk.refl _, _, _, h0, A1⟩ (fun i σ' H' _ ⟨t, _⟩ => t.seq hsq) (fun i x σ' H' hx ⟨t, G, M, hw, A'⟩ => ?_) (fun σ' H' ⟨t, G, M, hw, A'⟩ => ?_)⟩
    · obtain ⟨k, hk, rk⟩ := hd1.getV hx
      exact hs i k G M hk hw σ' H' x A' (Dv.mono t _ _ rk) _ fun G' σ2 H2 p2 t2 A2 => p2 _ σ2 H2 (lpE_cz hD1 (t.trans t2) fun G'' M'' σ3 H3 q3 t3 A3 => ⟨t3, G'', M'', q3, A3⟩) A2
    · rw [hd1.length] at hw
      exact hd G M hw D σ' H' (hD1.after t) A')
theorem so_forR {n : Int} {ea : Expr} {pp : Pos} (hp : PassesOwn (model X.prog X.w) X.A X.env X.xe) (hc : X.calm = true) (hm : X.mg "range" = none) (he : EX X C ea fun o M => ∃ n, o = .num n ∧ -(2 ^ 62) ≤ n ∧ n < 2 ^ 62 ∧ ∃ Wv : Nat → Gm → Ms → Prop, Wv 0 C.G M ∧
      (∀ (i : Nat) G M, (i : Int) < n → Wv i G M → GO X ⟨C.W, C.H0, G, M⟩ tg (.num i) fun G' => SO X z ⟨C.W, C.H0, G', M⟩ body (lpE X z C rest ae (Wv (i + 1)))) ∧
      ∀ G M, Wv n.toNat G M → SO X z ⟨C.W, C.H0, G, M⟩ rest ae) (hg : Gl X "range" := by rfl) (hsr : starEach [ea] X.env = [(false, eval ea X.env)] := by rfl) (hsr2 : starEach [ea] X.env = (false, eval ea X.env) :: starEach [] X.env := by rfl)
    (hf : ∀ x, foldedSetIterable (.Call (.Name "range" p) [ea] [] pp) X.env x = pure x := by intro _; rfl) : SO X z C (.For tg (.Call (.Name "range" p) [ea] [] pp) body [] pos :: rest) ae := fun D σ H hD A =>
  ws_cons (ps_for hp hc (pi_range1 hg hm (pa_cons pe_w pa_nil hsr2) hsr) pg_w pss_w hf) (he σ H A _ fun o M v H1 ⟨n, e1, b1, b2, Wv, h0, hs, hd⟩ t1 A1 r1 => by
    subst e1
    cases Dv.int_inv r1
    have hD1 := hD.after t1
    refine ⟨n, rfl, b1, b2, for_range (lo := 0) (n := n.toNat) (fun i σ' H' => Tk H1 H' ∧ ∃ G M, Wv i G M ∧ At X.w X.K ⟨C.W, C.H0, G, M⟩ σ' H') ⟨Tk.refl _, _, _, h0, A1⟩ (fun i σ' H' hi ⟨t, G, M, hw, A'⟩ => ?_) (fun σ' H' ⟨t, G, M, hw, A'⟩ => hd G M hw D σ' H' (hD1.after t) A')⟩
    have e0 : (0 : Int) + (i : Int) = (i : Int) := Int.zero_add _
    show wG X tg (.int (0 + (i : Int))) σ' H' _
    rw [e0]
    exact hs i G M (by omega) hw σ' H' _ A' (Dv.num _) _ fun G' σ2 H2 p2 t2 A2 => p2 _ σ2 H2 (lpE_cz hD1 (t.trans t2) fun G'' M'' σ3 H3 q3 t3 A3 => ⟨t3, G'', M'', q3, A3⟩) A2)
end
end Brd
namespace Brd
open PySem PySem.Spec PyProof.Rows L2

section
variable {X : Cx} {z : Zx} {C : Ct} {e a b c : Expr} {es tgs : List Expr} {P : Pk} {o : Ob} {p pos pos' apos : Pos} {x : Str} {rest body orelse : List Stmt} {ae : AE} {tg : Expr} {ks ls : List NestedKey}
/-- for target in a list of the store, which the loop leaves as it is -/
theorem so_forL (hp : PassesOwn (model X.prog X.w) X.A X.env X.xe) (hc : X.calm = true) (he : EX X C e fun o M => ∃ (l : Addr) (xs : List Ob), o = .r l ∧ ∃ Wv : Nat → Gm → Ms → Prop, Wv 0 C.G M ∧ (∀ i G M, Wv i G M → ∃ j : Nat, M[j]? = some (l, Mo.l xs)) ∧
      (∀ i ob G M, xs[i]? = some ob → Wv i G M → GO X ⟨C.W, C.H0, G, M⟩ tg ob fun G' => SO X z ⟨C.W, C.H0, G', M⟩ body (lpE X z C rest ae (Wv (i + 1)))) ∧
      ∀ G M, Wv xs.length G M → SO X z ⟨C.W, C.H0, G, M⟩ rest ae) (hf : ∀ x, foldedSetIterable e X.env x = pure x := by intro _; rfl) : SO X z C (.For tg e body [] pos :: rest) ae := fun D σ H hD A =>
  ws_cons (ps_for hp hc (pi_list pe_w) pg_w pss_w hf) (he σ H A _ fun o M v H1 ⟨l, xs, e1, Wv, h0, hl, hs, hd⟩ t1 A1 r1 => by
    subst e1
    cases (show v = V.ref l from r1)
    have hD1 := hD.after t1
    obtain ⟨j0, hj0⟩ := hl 0 _ _ h0
    obtain ⟨vs, w1, w2⟩ := A1.at_ hj0
    refine ⟨l, rfl, ⟨vs, SqL.of w1⟩, fun i m σ' H' => m = xs.length - i ∧ i ≤ xs.length ∧ Tk H1 H' ∧ ∃ G M, Wv i G M ∧ At X.w X.K ⟨C.W, C.H0, G, M⟩ σ' H', ⟨xs.length, by simp, Nat.zero_le _, Tk.refl _, _, _, h0, A1⟩, ?_⟩
    rintro i m σ' H' ⟨rfl, hi, t, G, M', hw, A'⟩
    obtain ⟨j, hj⟩ := hl i _ _ hw
    obtain ⟨vs', u1, u2⟩ := A'.at_ hj
    by_cases hlt : i < xs.length
    · have hx : xs[i]? = some xs[i] := List.getElem?_eq_getElem hlt
      obtain ⟨v, hv, rv⟩ := u2.get hx
      refine .inr ⟨⟨vs', v, SqL.of u1, hv⟩, fun σ2 H2 => Tk H1 H2 ∧ ∃ G M, Wv (i + 1) G M ∧ At X.w X.K ⟨C.W, C.H0, G, M⟩ σ2 H2, fun σ2 H2 ⟨t2, q⟩ => ⟨xs.length - (i + 1), by omega, rfl, hlt, t2, q⟩, fun y H2 ⟨e2, hy⟩ => ?_⟩
      subst e2
      have e3 := hy vs' (SqL.of u1)
      rw [hv] at e3
      cases e3
      exact hs i _ G M' hx hw σ' _ v A' rv _ fun G' σ2 H2 p2 t2 A2 => p2 _ σ2 H2 (lpE_cz hD1 (t.trans t2) fun G'' M'' σ3 H3 q3 t3 A3 => ⟨t3, G'', M'', q3, A3⟩) A2
    · have e0 : i = xs.length := by omega
      subst e0
      exact .inl ⟨⟨vs', SqL.of u1, by rw [← u2.length]; exact Nat.le_refl _⟩, hd G M' hw D σ' H' (hD1.after t) A'⟩)

/-! ### lists made -/
/-- xs[a:b] of a list of the store -/
theorem ex_sliceL {lo hi : Option Expr} {p2 : Pos} (h : EX X C a fun o1 M1 => ∃ (l : Addr) (j : Nat) (xs : List Ob) (i k : Option Int), o1 = .r l ∧ M1[j]? = some (l, Mo.l xs) ∧ EP1 X { C with M := M1 } lo i ∧ EP1 X { C with M := M1 } hi k ∧ ∀ q, P (.r q) (M1 ++ [(q, Mo.l (cutN xs i k))])) : EX X C (.Subscript a (.Slice lo hi none p2) pos) P := fun σ H A Q q =>
  we_of (pe_slice sl_list pe_w po_w po_w) (h σ H A _ fun o M v H1 ⟨l, j, xs, i, k, e1, hM, hl, hh, pp⟩ t1 A1 r1 => by
    subst e1
    cases (show v = V.ref l from r1)
    refine hl.run A1 fun H2 t2 A2 => hh.run A2 fun H3 t3 A3 => ?_
    obtain ⟨vs, w1, w2⟩ := A3.at_ hM
    refine ⟨l, vs, rfl, SqL.of w1, fun np hp => ?_⟩
    have t4 : Tk H3 (upd H3 np (.lst (cutV vs i k))) := Tk.new hp
    exact q _ _ _ _ (pp np) (((t1.trans t2).trans t3).trans t4) (A3.moNew hp ⟨_, upd_same, (obs_cut i k w2).mono t4⟩) rfl)
/-- xs + ys of lists of the store -/
theorem ex_catL (h : EX X C a fun o1 M1 => EX X { C with M := M1 } b fun o2 M2 => ∃ (l m : Addr) (j k : Nat) (xs ys : List Ob), o1 = .r l ∧ o2 = .r m ∧ M2[j]? = some (l, Mo.l xs) ∧ M2[k]? = some (m, Mo.l ys) ∧ xs.length + ys.length ≤ sizeLine ∧ ∀ q, P (.r q) (M2 ++ [(q, Mo.l (xs ++ ys))])) : EX X C (.BinOp a .Add b pos) P :=
  ex_op op_cat (EX.mono h fun o1 M1 h2 => EX.mono h2 fun o2 M2 ⟨l, m, j, k, xs, ys, e1, e2, hj, hk, hz, pp⟩ => fun σ H x y A r1 r2 Q q => by
    subst e1 e2
    cases (show x = V.ref l from r1)
    cases (show y = V.ref m from r2)
    obtain ⟨vs, w1, w2⟩ := A.at_ hj
    obtain ⟨us, u1, u2⟩ := A.at_ hk
    refine ⟨l, m, vs, us, rfl, rfl, w1, u1, by rw [← w2.length, ← u2.length]; exact hz, fun np hp => ?_⟩
    have t4 : Tk H (upd H np (.lst (vs ++ us))) := Tk.new hp
    exact q _ _ _ _ (pp np) t4 (A.moNew hp ⟨_, upd_same, (w2.append u2).mono t4⟩) rfl)
/-- list(t) of data -/
theorem ex_listT (h : EX X C e fun o M => ∃ ks, o = .tup ks ∧ ∀ q, P (.r q) (M ++ [(q, Mo.l (ks.map .d))])) (hm : X.mg "list" = none) (hg : Gl X "list" := by rfl) (he : starEach [e] X.env = (false, eval e X.env) :: starEach [] X.env := by rfl) : EX X C (.Call (.Name "list" p) [e] [] pos) P :=
  ex_callTy call_list_of hg hm (by decide +kernel) (ea_cons (EX.mono h fun o M ⟨ks, eo, pp⟩ => ea_nil fun σ H vs A r Q q => by
    subst eo
    obtain ⟨v, rfl, r1⟩ := obs1 r
    obtain ⟨a1, xs, rfl, hs, hd⟩ := Dv.tup_inv r1
    refine ⟨a1, xs, rfl, .inr hs, fun np hp => ?_⟩
    have t4 : Tk H (upd H np (.lst xs)) := Tk.new hp
    exact q _ _ _ _ (pp np) t4 (A.moNew hp ⟨_, upd_same, (Obs.of_dvs hd).mono t4⟩) rfl) he) (he := he)
/-- t[::-1] -/
theorem ed_rev {k : Nat} {p1 p2 p3 : Pos} (ha : ED X C a (.tup ks)) : ED X C (.Subscript a (.Slice none none (some (.UnaryOp .USub (.Constant (.int 1) k p1) p2)) p3) pos) (.tup ks.reverse) := fun σ H A Q q =>
  we_of (pe_revT pe_w) (ha σ H A _ fun o M v H1 ⟨e1, e2⟩ t1 A1 r1 => by
    subst e1 e2
    obtain ⟨a1, xs, rfl, hs, hd⟩ := Dv.tup_inv r1
    refine ⟨a1, xs, rfl, hs, fun np hp => ?_⟩
    have t4 : Tk H1 (upd H1 np (.tup xs.reverse)) := Tk.new hp
    exact q _ _ _ _ ⟨rfl, rfl⟩ (t1.trans t4) (A1.tupNew hp) (Dv.tup (SqT.of upd_same) (Dvs.mono t4 _ _ hd.reverse)))
/-- xs[::k], k 1 or -1, of a list of data in the store -/
theorem ex_stepL {st : Expr} {p3 : Pos} {l : Addr} {j : Nat} {k : Int} (ha : ED X C a (.r l)) (hM : C.M[j]? = some (l, Mo.l (ks.map .d))) (hst : ED X C st (.num k)) (hk : k = 1 ∨ k = -1) (pp : ∀ q, P (.r q) (C.M ++ [(q, Mo.l ((if k = 1 then ks else ks.reverse).map .d))]))
    (hs : ∀ o i, subscripted (.Slice none none (some st) p3) false o i = operate [o, i] (getItem o i) := by intro _ _; with_unfolding_all rfl) : EX X C (.Subscript a (.Slice none none (some st) p3) pos) P := fun σ H A Q q =>
  we_of (pe_stepL pe_w pe_w hs) (ha σ H A _ fun o M v H1 ⟨e1, e2⟩ t1 A1 r1 => by
    subst e1 e2
    cases (show v = V.ref l from r1)
    refine ⟨l, rfl, hst σ H1 A1 _ fun o2 M2 v2 H2 ⟨e3, e4⟩ t2 A2 r2 => ?_⟩
    subst e3 e4
    cases Dv.int_inv r2
    obtain ⟨vs, w1, w2⟩ := A2.at_ hM
    refine ⟨k, vs, rfl, hk, SqL.of w1, fun np hp => ?_⟩
    have t4 : Tk H2 (upd H2 np (.lst (if k = 1 then vs else vs.reverse))) := Tk.new hp
    refine q _ _ _ _ (pp np) ((t1.trans t2).trans t4) (A2.moNew hp ⟨_, upd_same, ?_⟩) rfl
    have hd := Obs.to_dvs w2
    by_cases h1 : k = 1
    · rw [if_pos h1, if_pos h1]
      exact (Obs.of_dvs hd).mono (by rw [if_pos h1] at t4; exact t4)
    · rw [if_neg h1, if_neg h1]
      exact (Obs.of_dvs hd.reverse).mono (by rw [if_neg h1] at t4; exact t4))

/-! ### raise, try -/
theorem so_asgR {x : Str} (h : ER X z C e) (hr : ae.rs C.G C.M) (i : Nat) (hN : X.N.Nodup) (hi : X.N[i]? = some x := by rfl) (hx : Loc X.env.scope x := by first | exact Or.inl rfl | exact Or.inr rfl)
    (hs : swapsWith e (some (.Name x pos')) pos.line X.env = pure false := by rfl) (hf : X.fn x = true ∨ X.env.scope.names.lookup x = some .local := by first | exact .inl rfl | exact .inr rfl) : SO X z C (.Assign [.Name x pos'] e pos :: rest) ae := fun D σ H hD A =>
  ws_cons (ps_set hN hi hx pe_w hs hf) (h σ H A _ fun H' t A' => hD.rs _ _ _ _ hr t A')
theorem so_asgGR (h : ER X z C e) (hr : ae.rs C.G C.M) (hs : swapsWithSole [tg] e pos.line X.env = pure false := by rfl) (hw : swappedStores [tg] e X.env = pure none := by rfl)
    (h1 : (assignEach [tg] X.env).map (·.2) = [assign tg X.env] := by rfl) : SO X z C (.Assign [tg] e pos :: rest) ae := fun D σ H hD A =>
  ws_cons (ps_asg pe_w pg_w hs hw h1) (h σ H A _ fun H' t A' => hD.rs _ _ _ _ hr t A')
theorem so_retR (h : ER X z C e) (hr : ae.rs C.G C.M) : SO X z C (.Return (some e) pos :: rest) ae := fun D σ H hD A =>
  ws_cons (ps_ret pe_w) (h σ H A _ fun H' t A' => hD.rs _ _ _ _ hr t A')
theorem so_exprR (h : ER X z C e) (hr : ae.rs C.G C.M) (hs : swapsWith e none pos.line X.env = pure false := by rfl) : SO X z C (.Expr e pos :: rest) ae := fun D σ H hD A =>
  ws_cons (ps_expr pe_w hs) (h σ H A _ fun H' t A' => hD.rs _ _ _ _ hr t A')
/-- xs.append(e), e raises -/
theorem er_append {l : Addr} {j : Nat} {xs : List Ob} (ha : ED X C a (.r l)) (hM : C.M[j]? = some (l, Mo.l xs)) (h : ERA X z C [e])
    (hbase : attributeBase a "append" X.env (eval a X.env) = eval a X.env := by rfl)
    (hfew : ((backTo pos (starEach (e :: []) X.env)).all (fun x => !x.1) && (backToKw pos (keywordEach [] X.env)).all (fun x => x.1.isSome)
      && decide ((e :: []).length + ([] : List Keyword).length + (if ([] : List Keyword).isEmpty then 0 else 1) < 30)) = true := by rfl)
    (hline : (apos.endLine == pos.line) = true := by rfl) (hs : starEach (e :: []) X.env = (false, eval e X.env) :: starEach [] X.env := by rfl) : ER X z C (.Call (.Attribute a "append" apos) [e] [] pos) := fun σ H A Q q =>
  we_of (pe_bm PySem.F.plainAttrs_list PySem.F.slot_list_append PySem.F.type_list_append mt_append pe_w pa_w hbase hfew hline hs) (ha σ H A _ fun o1 M1 v H1 ⟨e1, e2⟩ t1 A1 r1 => by
    subst e1 e2
    cases (show v = V.ref l from r1)
    obtain ⟨vs0, q1, q2⟩ := A1.at_ hM
    exact ⟨.inl ⟨rfl, _, SqL.of q1⟩, h σ H1 A1 _ fun H' t A' => q H' (t1.trans t) A'⟩)
/-- what is known of the exception class -/
structure Nx (K : PySem.W.Frag) (mg : Str → Option Value) (cn : Addr) : Prop where
  g : mg "NoSlide" = some (.ref cn)
  q : PySem.W.excIn K cn [.type "ValueError", .type "Exception", .type "BaseException", .type "object"] "ValueError.__new__" = true
  k : PySem.W.keepIn K (.ref cn) = true
  b : PySem.W.subIn K (.ref cn) (.type "BaseException") = some true
  t : PySem.W.typeIn K (.ref cn) = some (.type "type")
  m : PySem.W.exmOne K (.ref cn) (.ref cn) = some true
theorem so_raise {m : Str} {j : Nat} {p1 p2 p3 : Pos} (n : Nx X.K X.mg z.2) (hc : X.calm = true) (tk : Takes X z.1) (h : ae.rs C.G C.M) (hg : Gl X "NoSlide" := by rfl) : SO X z C (.Raise (some (.Call (.Name "NoSlide" p1) [.Constant (.str m) j p2] [] p3)) none pos :: rest) ae := fun D σ H hD A =>
  ws_cons (ps_raise hc tk (pmk_own PySem.F.excBase_ValueError n.q n.g n.k (raises_own n.b n.t) hg)) (hD.rs _ _ _ _ h (Tk.refl H) A)
abbrev z0 : Zx := (fun _ _ _ _ => False, 0)
theorem so_try {cn : Addr} {b0 : Stmt} {suite : List Stmt} {np : Pos} (n : Nx X.K X.mg cn) (hs : X.stack = X.env :: X.outer) (hf : X.env.frame = some X.env.locals) (tk : Takes X fun _ _ _ _ => False) (hg : Gl X "NoSlide")
    (hb : ∀ W0 pn xe, Takes (X.tr pn xe) W0 → SO (X.tr pn xe) (W0, cn) C body { ae with nx := fun G M => SO X z ⟨C.W, C.H0, G, M⟩ rest ae, rs := fun G M => ∀ a oe pn, SO (X.suite a ((a, oe) :: pn)) z0 ⟨C.W, C.H0, G, M⟩ (b0 :: suite) { ae with nx := fun G M => SO X z ⟨C.W, C.H0, G, M⟩ rest ae, rs := fun _ _ => False } }) :
    SO X z C (.Try body [.ExceptHandler (some (.Name "NoSlide" np)) none (b0 :: suite) pos'] [] [] pos :: rest) ae := fun D σ H hD A => by
  refine ws_cons (ps_try_only (c := .ref cn) (tb := fun W D σ H => ∀ pn xe, Takes (X.tr pn xe) W → PassesOwn (model X.prog X.w) X.A X.env xe → wSs (X.tr pn xe) body D σ H) (ts := fun a cls d D σ H => ∀ oe pn, Zc cls d oe → (∃ vs, oe.data = .fields vs) → wSs (X.suite a ((a, oe) :: pn)) (b0 :: suite) D σ H) (Wout := fun _ _ _ _ => False) hs hf ⟨hg, by decide, .inl n.g⟩ tk
    (fun W pn xe t po => ⟨fun pins s σ H D I h => h pn xe t po pins s I⟩) (fun a oe cls d pn hz hfl => ⟨fun pins s σ H D I h => h oe pn hz hfl pins s I⟩)) ?_
  intro pn xe t po
  refine hb _ pn xe t _ σ H ⟨fun G M σ H q t A => q D σ H (hD.after t) A, hD.rt, hD.bk, hD.ct, fun G M σ' H' q t' A' => ?_⟩ A
  refine ⟨true, n.m, fun _ a ha oe pn' hz hfl => ?_, fun q => nomatch q⟩
  exact q a oe pn' _ σ' H' ⟨fun G M σ H q t A => q D σ H (hD.after (t'.trans t)) A, fun o M G σ v H q t A r => hD.rt o M G σ v H q (t'.trans t) A r, fun G M σ H q t A => hD.bk G M σ H q (t'.trans t) A, fun G M σ H q t A => hD.ct G M σ H q (t'.trans t) A, fun G M σ H q => q.elim⟩ A'
end

/-! ### a def keeps its promise -/
section
variable {P : Program} {w : World} {K : PySem.W.Frag} {mg : Str → Option Value} {base : Heap} {x qual : Str} {params : Arguments} {body : List Stmt} {scope : Scope} {f : Addr} {N ps : List Str} {k : Nat}
theorem start_sl {K : PySem.W.Frag} {H : Hp} {N : List Str} {os : List Ob} {vs : List V} (h : Obs K H os vs) : Paired (fun (s : Option Ob) (z : Option V) => ∀ o, s = some o → ∃ v, z = some v ∧ o.is K H v) (os.map some ++ List.replicate (N.length - os.length) none) (L2.start N vs) := by
  unfold L2.start
  rw [h.length]
  have h2 : ∀ n : Nat, Paired (fun (s : Option Ob) (z : Option V) => ∀ o, s = some o → ∃ v, z = some v ∧ o.is K H v) (List.replicate n none) (List.replicate n none) := fun n => by
    induction n with
    | zero => exact .nil
    | succ n ih => exact .cons (fun _ e => nomatch e) ih
  generalize N.length - vs.length = n
  induction h with
  | nil => exact h2 n
  | cons r t ih => exact .cons (fun o e => by cases e; exact ⟨_, rfl, r⟩) ih
theorem kn_mk {R : List Ob → Ms → Pk → Prop} (F : ∃ fd, FunD K x qual params body scope [] [] f fd) (hm : mg x = some (.ref f)) (S : FnScope N ps scope)
    (hbi : ∀ fd, FunD K x qual params body scope [] [] f fd → Binds K fd ps []) (len : ∀ os M post, R os M post → os.length = ps.length)
    (hbody : ∀ (cdv : Value) (A : Around) (outer : List Env) (s : Shared) (H : Hp) (E : XK) (os : List Ob) (M : Ms) (post : Pk), Room k (A.deeper (envOfC qual scope s.heap.objs.size f cdv)) → R os M post →
      SO (cxOf CX0 P w K mg base N qual scope f cdv A outer s H E).nox z0 ⟨M.map (·.1), H, os.map some ++ List.replicate (N.length - os.length) none, M⟩ body { nx := fun _ M' => post (.d .none) M', rt := post }) :
    Kn CX0 P w K mg base x ps (k + 1) (spG w K R) := by
  obtain ⟨fd, F⟩ := F
  refine ⟨f, fd, F.ok S (fun vs H Q E ⟨os, M, post, hR, ho, _⟩ => by rw [← ho.length]; exact len os M post hR) (fun cdv A outer s H vs Q E hr ⟨os, M, post, hR, ho, hmo, hnd, hq⟩ => ⟨_, pss_w.nox, ?_⟩), hm, F.kp, hbi fd F⟩
  refine hbody cdv A outer s H E os M post hr hR _ _ H ⟨fun G M' σ H' q t A' => ?_, fun o M' G σ v H' q t A' r => ?_, fun _ _ _ _ q => q.elim, fun _ _ _ _ q => q.elim, fun _ _ _ _ q => q.elim⟩ ⟨start_sl ho, hmo, hnd, fun _ _ e _ => e, fun p hp => .inl (List.mem_map.mpr ⟨p, hp, rfl⟩), Tk.refl H⟩
  · exact hq _ M' _ H' q A'.kp A'.tk A'.mo A'.nd A'.own Dv.none
  · exact hq o M' v H' q A'.kp A'.tk A'.mo A'.nd A'.own r
theorem kn_mkX {cn : Addr} {R : List Ob → Option Ob → Prop} (F : ∃ fd, FunD K x qual params body scope [] [] f fd) (hm : mg x = some (.ref f)) (S : FnScope N ps scope)
    (hbi : ∀ fd, FunD K x qual params body scope [] [] f fd → Binds K fd ps []) (len : ∀ os r, R os r → os.length = ps.length)
    (hbody : ∀ (cdv : Value) (A : Around) (outer : List Env) (s : Shared) (H : Hp) (E : XK) (os : List Ob) (r : Option Ob), Room k (A.deeper (envOfC qual scope s.heap.objs.size f cdv)) → R os r →
      SO (cxOf (L2.CX P w) P w K mg base N qual scope f cdv A outer s H E) (fun cls d _ H => E cls d H, cn) ⟨[], H, os.map some ++ List.replicate (N.length - os.length) none, []⟩ body { nx := fun _ M' => r = some (.d .none), rt := fun o _ => r = some o, rs := fun _ _ => r = none }) :
    Kn (L2.CX P w) P w K mg base x ps (k + 1) (spX K cn R) := by
  obtain ⟨fd, F⟩ := F
  refine ⟨f, fd, F.ok S (fun vs H Q E ⟨os, r, hR, ho, _⟩ => by rw [← ho.length]; exact len os r hR) (fun cdv A outer s H vs Q E hr ⟨os, r, hR, ho, hq, he⟩ => ⟨_, pss_w, ?_⟩), hm, F.kp, hbi fd F⟩
  refine hbody cdv A outer s H E os r hr hR _ _ H ⟨fun G M' σ H' q t A' => ?_, fun o M' G σ v H' q t A' r' => ?_, fun _ _ _ _ q => q.elim, fun _ _ _ _ q => q.elim, fun G M σ H' q t A' => he q H' fun a x e => A'.kp a x e List.not_mem_nil⟩ ⟨start_sl ho, fun p hp => absurd hp List.not_mem_nil, List.nodup_nil, fun _ _ e _ => e, fun p hp => absurd hp List.not_mem_nil, Tk.refl H⟩
  · exact hq _ _ H' q (fun a x e => A'.kp a x e List.not_mem_nil) Dv.none
  · exact hq o v H' q (fun a x e => A'.kp a x e List.not_mem_nil) r'
end
end Brd
namespace Brd
open PySem PySem.Spec PyProof.Rows L2

section
variable {X : Cx} {z : Zx} {C : Ct} {e a b c elt iter : Expr} {es tgs : List Expr} {P : Pk} {o : Ob} {p pos pos' apos : Pos} {x : Str} {ps : List Str} {k : Nat} {os : List Ob}
/-! ### defs that give one thing -/
def RD (G : List Ob → Ob → Prop) : List Ob → Ms → Pk → Prop := fun os M post => M = [] ∧ ∃ o, G os o ∧ post = fun o' M' => o' = o ∧ M' = []
theorem ed_call {CX : CXT} {G : List Ob → Ob → Prop} (F : Kn CX X.prog X.w X.K X.mg X.base x ps k (spG X.w X.K (RD G))) (hr : Room k X.A) (hx : Passes CX X E0) (h : EDs X C (e :: es) os) (hG : G os o) (hg : Gl X x := by rfl) (hdb : (x == ("__debug__" : Str)) = false := by decide)
    (he : starEach (e :: es) X.env = (false, eval e X.env) :: starEach es X.env := by rfl) (hpl : (backTo pos (starEach es X.env)).any (·.1) = false := by rfl) : ED X C (.Call (.Name x p) (e :: es) [] pos) o :=
  ex_call F hr hx (h.ex ⟨_, ⟨rfl, o, hG, rfl⟩, fun o' Mn ⟨e1, e2⟩ => ⟨e1, by rw [e2, List.append_nil]⟩⟩) hg hdb he hpl
theorem ed_callX {CX : CXT} {cn : Addr} {RX : List Ob → Option Ob → Prop} (F : Kn CX X.prog X.w X.K X.mg X.base x ps k (spX X.K cn RX)) (hr : Room k X.A) (hx : Passes CX X E0) (h : EDs X C (e :: es) os) (hG : RX os (some o)) (hg : Gl X x := by rfl) (hdb : (x == ("__debug__" : Str)) = false := by decide)
    (he : starEach (e :: es) X.env = (false, eval e X.env) :: starEach es X.env := by rfl) (hpl : (backTo pos (starEach es X.env)).any (·.1) = false := by rfl) : ED X C (.Call (.Name x p) (e :: es) [] pos) o :=
  ex_callX F hr hx (h.ex ⟨o, hG, rfl, rfl⟩) hg hdb he hpl

/-! ### comprehensions -/
/-- the slots vs forgotten -/
def wipeG (G : Gm) : List Nat → Gm
  | [] => G
  | v :: vs => (wipeG G vs).set v none
theorem wipe_idem : ∀ (σ : L2.St) (vs ws : List Nat), (∀ i ∈ vs, i ∈ ws) → wipe (wipe σ ws) vs = wipe σ ws
  | σ, [], ws, _ => rfl
  | σ, v :: vs, ws, h => by
    show (wipe (wipe σ ws) vs).set v none = _
    rw [wipe_idem σ vs ws fun i hi => h i (List.mem_cons_of_mem _ hi)]
    refine List.ext_getElem? fun j => ?_
    by_cases hj : v = j
    · subst hj
      by_cases hl : v < (wipe σ ws).length
      · rw [List.getElem?_set_self hl]
        cases q : (wipe σ ws)[v]? with
        | none => rw [List.getElem?_eq_none_iff] at q; omega
        | some y =>
          cases y with
          | none => rfl
          | some y => exact absurd (h v List.mem_cons_self) (wipe_some q).2
      · rw [List.getElem?_eq_none (by rw [List.length_set]; omega), List.getElem?_eq_none (by omega)]
    · rw [List.getElem?_set_ne hj]
theorem wipe_set {y : Option V} : ∀ (τ : L2.St) (i : Nat) (vs : List Nat), i ∈ vs → wipe (τ.set i y) vs = wipe τ vs
  | τ, i, [], h => absurd h List.not_mem_nil
  | τ, i, v :: vs, h => by
    show (wipe (τ.set i y) vs).set v none = (wipe τ vs).set v none
    by_cases hi : i ∈ vs
    · rw [wipe_set τ i vs hi]
    · have e : i = v := by
        rcases List.mem_cons.mp h with e | e
        · exact e
        · exact absurd e hi
      subst e
      have gen : ∀ (vs : List Nat), i ∉ vs → wipe (τ.set i y) vs = (wipe τ vs).set i y := by
        intro vs
        induction vs with
        | nil => intro _; rfl
        | cons v vs ih =>
          intro hv
          simp only [List.mem_cons, not_or] at hv
          show (wipe (τ.set i y) vs).set v none = ((wipe τ vs).set v none).set i y
          rw [ih hv.2, List.set_comm _ _ hv.1]
      rw [gen vs hi, List.set_set]
theorem At.wipe {w : World} {K : PySem.W.Frag} {σ : L2.St} {H : Hp} (A : At w K C σ H) : ∀ vs : List Nat, At w K { C with G := wipeG C.G vs } (L2.wipe σ vs) H
  | [] => A
  | v :: vs => by
    have A1 := At.wipe A vs
    exact ⟨paired_set (fun o e => nomatch e) v A1.sl, A1.mo, A1.nd, A1.kp, A1.own, A1.tk⟩
theorem set_last {M : Ms} {D : Addr} {m m' : Mo} : (M ++ [(D, m)]).set M.length (D, m') = M ++ [(D, m')] := by
  rw [List.set_append_right _ _ (Nat.le_refl _), Nat.sub_self]; rfl
theorem last_at {M : Ms} {D : Addr} {m : Mo} : (M ++ [(D, m)])[M.length]? = some (D, m) := by simp
/-- from the element's value to the next turn -/
theorem lc_put {w : World} {K : PySem.W.Frag} {C : Ct} {G G0 : Gm} {σ σ0 : L2.St} {H0 H : Hp} {M0 M : Ms} {D : Addr} {acc : List Ob} {o : Ob} {v : V} (A0 : At w K ⟨C.W, C.H0, G0, M0⟩ σ0 H0) (t : Tk H0 H) (A : At w K ⟨C.W, C.H0, G, M ++ [(D, Mo.l acc)]⟩ σ H) (r : o.is K H v) (hz : acc.length < sizeLine) :
    ∃ us, H D = some (.lst us) ∧ us.length < sizeLine ∧ At w K ⟨C.W, C.H0, G0, M ++ [(D, Mo.l (acc ++ [o]))]⟩ σ0 (upd H D (.lst (us ++ [v]))) ∧ Tk H (upd H D (.lst (us ++ [v]))) := by
  obtain ⟨us, w1, w2⟩ := A.at_ (i := M.length) last_at
  obtain ⟨A3, t3⟩ := A.write (i := M.length) (m' := .l (acc ++ [o])) (u := .lst (us ++ [v])) last_at fun t => ⟨_, upd_same, (w2.append (.cons r .nil)).mono t⟩
  refine ⟨us, w1, by rw [← w2.length]; exact hz, ?_, t3⟩
  have A4 : At w K ⟨C.W, C.H0, G, (M ++ [(D, Mo.l acc)]).set M.length (D, Mo.l (acc ++ [o]))⟩ σ (upd H D (.lst (us ++ [v]))) := A3
  rw [set_last] at A4
  exact ⟨At.sl_mono (t.trans t3) A0.sl, A4.mo, A4.nd, A4.kp, A4.own, A4.tk⟩
/-- what is walked: n items -/
def IR (X : Cx) (C : Ct) (tg iter : Expr) (n : Nat) (item : Nat → Ob) : Prop := ∃ wi, PI X tg iter wi ∧ ∀ (σ : L2.St) (H : Hp), At X.w X.K C σ H → ∀ R : It → Hp → Prop,
  (∀ (J : It) (H1 : Hp) (Sd : Hp → Prop), Tk H H1 → At X.w X.K C σ H1 → Sd H1 → (∀ H2 H3, Sd H2 → Tk H2 H3 → Sd H3) → (∀ i H2, Sd H2 → n ≤ i → J.stop i H2) → (∀ i H2, Sd H2 → i < n → J.go i H2) →
    (∀ i H2 x H3, Sd H2 → i < n → J.yld i H2 x H3 → H3 = H2 ∧ (item i).is X.K H2 x) → R J H1) → wi σ H R
theorem getD_get {ks : List NestedKey} {i : Nat} (h : i < ks.length) : ks[i]? = some (ks.getD i .none) := by
  rw [List.getD_eq_getElem?_getD, List.getElem?_eq_getElem h]; rfl
theorem ir_tup {tg : Expr} {ks : List NestedKey} (h : ED X C iter (.tup ks)) : IR X C tg iter ks.length fun i => .d (ks.getD i .none) :=
  ⟨_, pi_tup pe_w, fun σ H A R q => h σ H A _ fun o M v H1 ⟨e1, e2⟩ t1 A1 r1 => by
    subst e1 e2
    obtain ⟨a1, xs, rfl, hs, hd⟩ := Dv.tup_inv r1
    refine ⟨a1, rfl, ⟨xs, hs⟩, q _ H1 (fun H2 => SqT X.K H2 a1 xs ∧ Dvs X.K H2 ks xs) t1 A1 ⟨hs, hd⟩ (fun H2 H3 ⟨s1, s2⟩ t => ⟨t.seq s1, Dvs.mono t _ _ s2⟩) (fun i H2 ⟨s1, s2⟩ hi => ⟨xs, s1, by rw [s2.length]; exact hi⟩) (fun i H2 ⟨s1, s2⟩ hi => ?_) (fun i H2 x H3 ⟨s1, s2⟩ hi ⟨e, y⟩ => ⟨e, ?_⟩)⟩
    · obtain ⟨v, hv, _⟩ := s2.get (getD_get hi)
      exact ⟨xs, v, s1, hv⟩
    · obtain ⟨v, hv, rv⟩ := s2.get (getD_get hi)
      have := y xs s1
      rw [hv] at this
      cases this
      exact rv⟩
theorem ir_rev {tg : Expr} {ks : List NestedKey} {p2 : Pos} (h : ED X C iter (.tup ks)) (hm : X.mg "reversed" = none) (hg : Gl X "reversed" := by rfl) (hs : starEach [iter] X.env = (false, eval iter X.env) :: starEach [] X.env := by rfl) : IR X C tg (.Call (.Name "reversed" p) [iter] [] p2) ks.length fun i => .d (ks.reverse.getD i .none) :=
  ⟨_, RT.pi_revA hg hm pe_w hs, fun σ H A R q => h σ H A _ fun o M v H1 ⟨e1, e2⟩ t1 A1 r1 => by
    subst e1 e2
    obtain ⟨a1, xs, rfl, hs, hd⟩ := Dv.tup_inv r1
    have hl := hd.length
    refine ⟨a1, xs, rfl, .inr ⟨hs, q _ H1 (fun H2 => SqT X.K H2 a1 xs ∧ Dvs X.K H2 ks xs) t1 A1 ⟨hs, hd⟩ (fun H2 H3 ⟨s1, s2⟩ t => ⟨t.seq s1, Dvs.mono t _ _ s2⟩) (fun i H2 ⟨s1, s2⟩ hi => by show xs.length ≤ i; omega) (fun i H2 ⟨s1, s2⟩ hi => ?_) (fun i H2 x H3 ⟨s1, s2⟩ hi ⟨e, y⟩ => ⟨e, ?_⟩)⟩⟩
    · refine ⟨by omega, xs, xs[xs.length - 1 - i]'(by omega), s1, List.getElem?_eq_getElem _⟩
    · obtain ⟨v, hv, rv⟩ := s2.get (i := ks.length - 1 - i) (k := ks.reverse.getD i .none) (by
        rw [List.getD_eq_getElem?_getD, List.getElem?_reverse hi, ]
        rw [List.getElem?_eq_getElem (by omega)]; rfl)
      have := y xs s1
      rw [hl, hv] at this
      cases this
      exact rv⟩
theorem ir_range {tg : Expr} {n : Int} {p2 : Pos} (h : ED X C iter (.num n)) (b1 : -(2 ^ 62) ≤ n) (b2 : n < 2 ^ 62) (hm : X.mg "range" = none) (hg : Gl X "range" := by rfl) (hs : starEach [iter] X.env = [(false, eval iter X.env)] := by rfl) (hs2 : starEach [iter] X.env = (false, eval iter X.env) :: starEach [] X.env := by rfl) : IR X C tg (.Call (.Name "range" p) [iter] [] p2) n.toNat fun i => .num i :=
  ⟨_, pi_range1 hg hm (pa_cons pe_w pa_nil hs2) hs, fun σ H A R q => h σ H A _ fun o M v H1 ⟨e1, e2⟩ t1 A1 r1 => by
    subst e1 e2
    cases Dv.int_inv r1
    refine ⟨n, rfl, b1, b2, q _ H1 (fun _ => True) t1 A1 trivial (fun _ _ _ _ => trivial) (fun i H2 _ hi => hi) (fun i H2 _ hi => hi) (fun i H2 x H3 _ hi ⟨e, y⟩ => ⟨e, ?_⟩)⟩
    subst y
    rw [Int.zero_add]
    exact Dv.num _⟩
section
variable {scope : Scope} {own : List (Str × Nat)}
/-- [elt for name in iter] -/
theorem ex_lc1 {y : Str} {tpos : Pos} {n : Nat} {item : Nat → Ob} (j : Nat) (hc : X.calm = true) (hN : X.N.Nodup) (ok : BlkOk X.N X.env.scope scope [(y, j)]) (hz : n ≤ sizeLine)
    (hgn : ∀ (s : Shared) (H : Hp) (Cc : Addr) (cl : List (Str × Addr)) (fp : List Addr), PG (X.blk s H scope (compEnvC scope cl Cc X.env) fp) (.Name y tpos) (gName j)) (hi : IR X C (.Name y tpos) iter n item)
    (Wv : Nat → List Ob → Ms → Prop) (h0 : Wv 0 [] C.M)
    (hs : ∀ i acc M D, i < n → acc.length = i → Wv i acc M → ∀ (s : Shared) (H : Hp) (Cc : Addr) (cl : List (Str × Addr)) (fp : List Addr), EX (X.blk s H scope (compEnvC scope cl Cc X.env) fp) ⟨C.W, C.H0, (wipeG C.G [j]).set j (some (item i)), M ++ [(D, Mo.l acc)]⟩ elt fun o M2 => ∃ M', M2 = M' ++ [(D, Mo.l acc)] ∧ Wv (i + 1) (acc ++ [o]) M')
    (hd : ∀ acc M D, acc.length = n → Wv n acc M → P (.r D) (M ++ [(D, Mo.l acc)])) (hf : ∀ x, foldedSetIterable iter X.env x = pure x := by intro _; rfl) : EX X C (.ListComp elt [⟨.Name y tpos, iter, [], 0⟩] scope pos) P := by
  obtain ⟨wi, hwi, hw⟩ := hi
  intro σ H A Q q
  refine we_of (pe_lc (own := [(y, j)]) (g := gName j) (tt := tYes) (te := fun σ H Q => ∀ (s : Shared) (H0 : Hp) (Cc : Addr) (cl : List (Str × Addr)) (fp : List Addr), wE (X.blk s H0 scope (compEnvC scope cl Cc X.env) fp) elt σ H Q)
    hc hN hwi ok hgn (fun _ _ _ _ _ => pts_nil) (fun s H Cc cl fp => ⟨fun pins s' σ H' Q I h => h s H Cc cl fp pins s' I⟩) hf) ?_
  refine hw σ H A _ fun J H1 Sd t1 A1 sd1 sdm hstop hgo hyld => ?_
  intro D hD
  have A1w := (A1.moNew (m := .l []) (u := .lst []) hD ⟨[], upd_same, .nil⟩).wipe [j]
  refine ⟨fun i m H' => m = n - i ∧ i ≤ n ∧ Sd H' ∧ Tk H H' ∧ ∃ acc M, acc.length = i ∧ Wv i acc M ∧ At X.w X.K ⟨C.W, C.H0, wipeG C.G [j], M ++ [(D, Mo.l acc)]⟩ (wipe σ [j]) H' ∧ At X.w X.K ⟨C.W, C.H0, C.G, M ++ [(D, Mo.l acc)]⟩ σ H', ⟨n, by simp, Nat.zero_le _, sdm _ _ sd1 (Tk.new hD), t1.trans (Tk.new hD), [], C.M, rfl, h0, A1w, A1.moNew (m := .l []) (u := .lst []) hD ⟨[], upd_same, .nil⟩⟩, ?_⟩
  rintro i m H' ⟨rfl, hi, sd, t, acc, M, hl, hwv, Aw, Af⟩
  by_cases hlt : i < n
  · obtain ⟨Nx, hNx⟩ : ∃ Nx : Hp → Prop, Nx = fun H2 => i + 1 ≤ n ∧ Sd H2 ∧ Tk H H2 ∧ ∃ acc M, acc.length = i + 1 ∧ Wv (i + 1) acc M ∧ At X.w X.K ⟨C.W, C.H0, wipeG C.G [j], M ++ [(D, Mo.l acc)]⟩ (wipe σ [j]) H2 ∧ At X.w X.K ⟨C.W, C.H0, C.G, M ++ [(D, Mo.l acc)]⟩ σ H2 := ⟨_, rfl⟩
    refine .inr ⟨hgo i H' sd hlt, Nx, fun H2 hn => ?_, fun x H2 hy => ?_⟩
    · subst hNx
      obtain ⟨q1, q2, q3, q4⟩ := hn
      exact ⟨n - (i + 1), by omega, rfl, q1, q2, q3, q4⟩
    obtain ⟨e2, hx⟩ := hyld i H' x H2 sd hlt hy
    subst e2
    refine ⟨by show wipe ((wipe σ [j]).set j (some x)) [j] = wipe σ [j]; rw [wipe_set _ _ _ (List.mem_cons_self), wipe_idem σ [j] [j] fun _ h => h], @iteT _ (Nx H2) ?_⟩
    intro s H0 Cc cl fp
    refine hs i acc M D hlt hl hwv s H0 Cc cl fp _ _ (Aw.set j hx) _ fun o M2 v H3 ⟨M', e3, hw3⟩ t3 A3 r3 => ?_
    subst e3
    obtain ⟨us, u1, u2, A4, t4⟩ := lc_put Aw t3 A3 r3 (by rw [hl]; omega)
    obtain ⟨us', u1', u2', A5, t5⟩ := lc_put Af t3 A3 r3 (by rw [hl]; omega)
    rw [u1] at u1'
    cases u1'
    refine ⟨us, u1, u2, ?_⟩
    rw [hNx]
    exact ⟨hlt, sdm _ _ sd (t3.trans t4), (t.trans t3).trans t4, acc ++ [o], M', by simp [hl], hw3, A4, A5⟩
  · have e0 : i = n := by omega
    subst e0
    exact .inl ⟨hstop i H' sd (Nat.le_refl _), q _ _ _ _ (hd acc M D hl hwv) t Af rfl⟩
/-- [elt for a, b in iter], the items pairs -/
theorem ex_lc2 {y y2 : Str} {tg : Expr} {n : Nat} {i1 i2 : Nat → NestedKey} (j j2 : Nat) (hjj : j ≠ j2) (hc : X.calm = true) (hN : X.N.Nodup) (ok : BlkOk X.N X.env.scope scope [(y, j), (y2, j2)]) (hz : n ≤ sizeLine)
    (hgn : ∀ (s : Shared) (H : Hp) (Cc : Addr) (cl : List (Str × Addr)) (fp : List Addr), PG (X.blk s H scope (compEnvC scope cl Cc X.env) fp) tg (gTup X.K 2 (gCons (gName j) (gCons (gName j2) gNil)))) (hi : IR X C tg iter n (fun i => .tup [i1 i, i2 i]))
    (Wv : Nat → List Ob → Ms → Prop) (h0 : Wv 0 [] C.M)
    (hs : ∀ i acc M D, i < n → acc.length = i → Wv i acc M → ∀ (s : Shared) (H : Hp) (Cc : Addr) (cl : List (Str × Addr)) (fp : List Addr), EX (X.blk s H scope (compEnvC scope cl Cc X.env) fp) ⟨C.W, C.H0, ((wipeG C.G [j, j2]).set j (some (.d (i1 i)))).set j2 (some (.d (i2 i))), M ++ [(D, Mo.l acc)]⟩ elt fun o M2 => ∃ M', M2 = M' ++ [(D, Mo.l acc)] ∧ Wv (i + 1) (acc ++ [o]) M')
    (hd : ∀ acc M D, acc.length = n → Wv n acc M → P (.r D) (M ++ [(D, Mo.l acc)])) (hf : ∀ x, foldedSetIterable iter X.env x = pure x := by intro _; rfl) : EX X C (.ListComp elt [⟨tg, iter, [], 0⟩] scope pos) P := by
  obtain ⟨wi, hwi, hw⟩ := hi
  intro σ H A Q q
  refine we_of (pe_lc (own := [(y, j), (y2, j2)]) (g := gTup X.K 2 (gCons (gName j) (gCons (gName j2) gNil))) (tt := tYes) (te := fun σ H Q => ∀ (s : Shared) (H0 : Hp) (Cc : Addr) (cl : List (Str × Addr)) (fp : List Addr), wE (X.blk s H0 scope (compEnvC scope cl Cc X.env) fp) elt σ H Q)
    hc hN hwi ok hgn (fun _ _ _ _ _ => pts_nil) (fun s H Cc cl fp => ⟨fun pins s' σ H' Q I h => h s H Cc cl fp pins s' I⟩) hf) ?_
  refine hw σ H A _ fun J H1 Sd t1 A1 sd1 sdm hstop hgo hyld => ?_
  intro D hD
  have A1w := (A1.moNew (m := .l []) (u := .lst []) hD ⟨[], upd_same, .nil⟩).wipe [j, j2]
  refine ⟨fun i m H' => m = n - i ∧ i ≤ n ∧ Sd H' ∧ Tk H H' ∧ ∃ acc M, acc.length = i ∧ Wv i acc M ∧ At X.w X.K ⟨C.W, C.H0, wipeG C.G [j, j2], M ++ [(D, Mo.l acc)]⟩ (wipe σ [j, j2]) H' ∧ At X.w X.K ⟨C.W, C.H0, C.G, M ++ [(D, Mo.l acc)]⟩ σ H', ⟨n, by simp, Nat.zero_le _, sdm _ _ sd1 (Tk.new hD), t1.trans (Tk.new hD), [], C.M, rfl, h0, A1w, A1.moNew (m := .l []) (u := .lst []) hD ⟨[], upd_same, .nil⟩⟩, ?_⟩
  rintro i m H' ⟨rfl, hi, sd, t, acc, M, hl, hwv, Aw, Af⟩
  by_cases hlt : i < n
  · obtain ⟨Nx, hNx⟩ : ∃ Nx : Hp → Prop, Nx = fun H2 => i + 1 ≤ n ∧ Sd H2 ∧ Tk H H2 ∧ ∃ acc M, acc.length = i + 1 ∧ Wv (i + 1) acc M ∧ At X.w X.K ⟨C.W, C.H0, wipeG C.G [j, j2], M ++ [(D, Mo.l acc)]⟩ (wipe σ [j, j2]) H2 ∧ At X.w X.K ⟨C.W, C.H0, C.G, M ++ [(D, Mo.l acc)]⟩ σ H2 := ⟨_, rfl⟩
    refine .inr ⟨hgo i H' sd hlt, Nx, fun H2 hn => ?_, fun x H2 hy => ?_⟩
    · subst hNx
      obtain ⟨q1, q2, q3, q4⟩ := hn
      exact ⟨n - (i + 1), by omega, rfl, q1, q2, q3, q4⟩
    obtain ⟨e2, hx⟩ := hyld i H' x H2 sd hlt hy
    subst e2
    obtain ⟨a1, xs, rfl, hsq, hdv⟩ := Dv.tup_inv hx
    obtain ⟨x1, x2, rfl, d1, d2⟩ : ∃ x1 x2, xs = [x1, x2] ∧ Dv X.K H2 (i1 i) x1 ∧ Dv X.K H2 (i2 i) x2 := by
      cases hdv with
      | cons d1 r => cases r with | cons d2 r => cases r; exact ⟨_, _, rfl, d1, d2⟩
    refine ⟨a1, [x1, x2], rfl, hsq, rfl, x1, [x2], rfl, x2, [], rfl, rfl, by show wipe (((wipe σ [j, j2]).set j (some x1)).set j2 (some x2)) [j, j2] = wipe σ [j, j2]; rw [wipe_set _ _ _ (by simp), wipe_set _ _ _ (by simp), wipe_idem σ [j, j2] [j, j2] fun _ h => h], @iteT _ (Nx H2) ?_⟩
    intro s H0 Cc cl fp
    refine hs i acc M D hlt hl hwv s H0 Cc cl fp _ _ ((Aw.set j (o := .d (i1 i)) d1).set j2 (o := .d (i2 i)) d2) _ fun o M2 v H3 ⟨M', e3, hw3⟩ t3 A3 r3 => ?_
    subst e3
    obtain ⟨us, u1, u2, A4, t4⟩ := lc_put Aw t3 A3 r3 (by rw [hl]; omega)
    obtain ⟨us', u1', u2', A5, t5⟩ := lc_put Af t3 A3 r3 (by rw [hl]; omega)
    rw [u1] at u1'
    cases u1'
    refine ⟨us, u1, u2, ?_⟩
    rw [hNx]
    exact ⟨hlt, sdm _ _ sd (t3.trans t4), (t.trans t3).trans t4, acc ++ [o], M', by simp [hl], hw3, A4, A5⟩
  · have e0 : i = n := by omega
    subst e0
    exact .inl ⟨hstop i H' sd (Nat.le_refl _), q _ _ _ _ (hd acc M D hl hwv) t Af rfl⟩
/-- items that hang on the place alone -/
theorem ed_lc1 {y : Str} {tpos : Pos} {n : Nat} {item : Nat → Ob} (j : Nat) (f : Nat → NestedKey) (hc : X.calm = true) (hN : X.N.Nodup) (ok : BlkOk X.N X.env.scope scope [(y, j)]) (hz : n ≤ sizeLine)
    (hgn : ∀ (s : Shared) (H : Hp) (Cc : Addr) (cl : List (Str × Addr)) (fp : List Addr), PG (X.blk s H scope (compEnvC scope cl Cc X.env) fp) (.Name y tpos) (gName j)) (hi : IR X C (.Name y tpos) iter n item)
    (hs : ∀ i M, i < n → ∀ (s : Shared) (H : Hp) (Cc : Addr) (cl : List (Str × Addr)) (fp : List Addr), ED (X.blk s H scope (compEnvC scope cl Cc X.env) fp) ⟨C.W, C.H0, (wipeG C.G [j]).set j (some (item i)), M⟩ elt (.d (f i)))
    (hf : ∀ x, foldedSetIterable iter X.env x = pure x := by intro _; rfl) : EX X C (.ListComp elt [⟨.Name y tpos, iter, [], 0⟩] scope pos) fun o M => ∃ l, o = .r l ∧ M = C.M ++ [(l, Mo.l (((List.range n).map f).map .d))] :=
  ex_lc1 j hc hN ok hz hgn hi (fun i acc M => acc = ((List.range i).map f).map .d ∧ M = C.M) ⟨rfl, rfl⟩ (fun i acc M D hi hl ⟨e1, e2⟩ s H Cc cl fp => (hs i _ hi s H Cc cl fp).ex ⟨M, rfl, by rw [e1, List.range_succ, List.map_append, List.map_append]; rfl, e2⟩)
    (fun acc M D hl ⟨e1, e2⟩ => ⟨D, rfl, by rw [e1, e2]⟩) hf
theorem ed_lc2 {y y2 : Str} {tg : Expr} {n : Nat} {i1 i2 : Nat → NestedKey} (j j2 : Nat) (f : Nat → NestedKey) (hjj : j ≠ j2) (hc : X.calm = true) (hN : X.N.Nodup) (ok : BlkOk X.N X.env.scope scope [(y, j), (y2, j2)]) (hz : n ≤ sizeLine)
    (hgn : ∀ (s : Shared) (H : Hp) (Cc : Addr) (cl : List (Str × Addr)) (fp : List Addr), PG (X.blk s H scope (compEnvC scope cl Cc X.env) fp) tg (gTup X.K 2 (gCons (gName j) (gCons (gName j2) gNil)))) (hi : IR X C tg iter n (fun i => .tup [i1 i, i2 i]))
    (hs : ∀ i M, i < n → ∀ (s : Shared) (H : Hp) (Cc : Addr) (cl : List (Str × Addr)) (fp : List Addr), ED (X.blk s H scope (compEnvC scope cl Cc X.env) fp) ⟨C.W, C.H0, ((wipeG C.G [j, j2]).set j (some (.d (i1 i)))).set j2 (some (.d (i2 i))), M⟩ elt (.d (f i)))
    (hf : ∀ x, foldedSetIterable iter X.env x = pure x := by intro _; rfl) : EX X C (.ListComp elt [⟨tg, iter, [], 0⟩] scope pos) fun o M => ∃ l, o = .r l ∧ M = C.M ++ [(l, Mo.l (((List.range n).map f).map .d))] :=
  ex_lc2 j j2 hjj hc hN ok hz hgn hi (fun i acc M => acc = ((List.range i).map f).map .d ∧ M = C.M) ⟨rfl, rfl⟩ (fun i acc M D hi hl ⟨e1, e2⟩ s H Cc cl fp => (hs i _ hi s H Cc cl fp).ex ⟨M, rfl, by rw [e1, List.range_succ, List.map_append, List.map_append]; rfl, e2⟩)
    (fun acc M D hl ⟨e1, e2⟩ => ⟨D, rfl, by rw [e1, e2]⟩) hf
end
end
end Brd
namespace Brd
open PySem PySem.Spec PyProof.Rows L2
/-- return, objects of the store forgotten -/
theorem so_retS {X : Cx} {z : Zx} {C : Ct} {e : Expr} {pos : Pos} {rest : List Stmt} {ae : AE} (h : EX X C e fun o M => ∃ M0 : Ms, List.Sublist M0 M ∧ ae.rt o M0) : SO X z C (.Return (some e) pos :: rest) ae := fun D σ H hD A =>
  ws_cons (ps_ret pe_w) (h σ H A _ fun o M v H' ⟨M0, hs, p⟩ t A' r => hD.rt o M0 _ σ v H' p t (A'.sub hs) r)
end Brd
namespace Brd
open PySem PySem.Spec PyProof.Rows L2
section
variable {X : Cx} {z : Zx} {C : Ct} {e a b c elt iter : Expr} {P : Pk} {pos spos py : Pos} {yy : Str} {rest : List Stmt} {ae : AE} {scope : Scope} {own : List (Str × Nat)}
theorem so_setLc1 {y : Str} {tpos : Pos} {n : Nat} {item : Nat → Ob} (j : Nat) (hc : X.calm = true) (hN : X.N.Nodup) (ok : BlkOk X.N X.env.scope scope [(y, j)]) (hz : n ≤ sizeLine)
    (hgn : ∀ (s : Shared) (H : Hp) (Cc : Addr) (cl : List (Str × Addr)) (fp : List Addr), PG (X.blk s H scope (compEnvC scope cl Cc X.env) fp) (.Name y tpos) (gName j)) (hi : IR X C (.Name y tpos) iter n item)
    (Wv : Nat → List Ob → Ms → Prop) (h0 : Wv 0 [] C.M)
    (hs : ∀ i acc M D, i < n → acc.length = i → Wv i acc M → ∀ (s : Shared) (H : Hp) (Cc : Addr) (cl : List (Str × Addr)) (fp : List Addr), EX (X.blk s H scope (compEnvC scope cl Cc X.env) fp) ⟨C.W, C.H0, (wipeG C.G [j]).set j (some (item i)), M ++ [(D, Mo.l acc)]⟩ elt fun o M2 => ∃ M', M2 = M' ++ [(D, Mo.l acc)] ∧ Wv (i + 1) (acc ++ [o]) M')
    (hd : ∀ acc M D, acc.length = n → Wv n acc M → P (.r D) (M ++ [(D, Mo.l acc)])) (hf : ∀ x, foldedSetIterable iter X.env x = pure x := by intro _; rfl) (ii : Nat) (hP : ∀ o M, P o M → SO X z { C with G := C.G.set ii (some o), M := M } rest ae) (hyl : X.env.scope.names.lookup yy = some .local) (hsw : swapsWith (.ListComp elt [⟨.Name y tpos, iter, [], 0⟩] scope pos) (some (.Name yy py)) spos.line X.env = pure true) (hy : X.N[ii]? = some yy := by rfl) : SO X z C (.Assign [.Name yy py] (.ListComp elt [⟨.Name y tpos, iter, [], 0⟩] scope pos) spos :: rest) ae := by
  obtain ⟨wi, hwi, hw⟩ := hi
  intro D0 σ H hD A
  have q : ∀ o M v H', P o M → Tk H H' → At X.w X.K { C with M := M } σ H' → o.is X.K H' v → (wSs X rest D0) (σ.set ii (some v)) H' := fun o M v H' p t A' r => hP o M p D0 _ _ (hD.after t) (A'.set ii r)
  refine ws_cons (ps_setLc (i := ii) (own := [(y, j)]) (g := gName j) (tt := tYes) (te := fun σ H Q => ∀ (s : Shared) (H0 : Hp) (Cc : Addr) (cl : List (Str × Addr)) (fp : List Addr), wE (X.blk s H0 scope (compEnvC scope cl Cc X.env) fp) elt σ H Q)
    hc hN hy hyl hsw hwi ok hgn (fun _ _ _ _ _ => pts_nil) (fun s H Cc cl fp => ⟨fun pins s' σ H' Q I h => h s H Cc cl fp pins s' I⟩) hf) ?_
  refine hw σ H A _ fun J H1 Sd t1 A1 sd1 sdm hstop hgo hyld => ?_
  intro D hD
  have A1w := (A1.moNew (m := .l []) (u := .lst []) hD ⟨[], upd_same, .nil⟩).wipe [j]
  refine ⟨fun i m H' => m = n - i ∧ i ≤ n ∧ Sd H' ∧ Tk H H' ∧ ∃ acc M, acc.length = i ∧ Wv i acc M ∧ At X.w X.K ⟨C.W, C.H0, wipeG C.G [j], M ++ [(D, Mo.l acc)]⟩ (wipe σ [j]) H' ∧ At X.w X.K ⟨C.W, C.H0, C.G, M ++ [(D, Mo.l acc)]⟩ σ H', ⟨n, by simp, Nat.zero_le _, sdm _ _ sd1 (Tk.new hD), t1.trans (Tk.new hD), [], C.M, rfl, h0, A1w, A1.moNew (m := .l []) (u := .lst []) hD ⟨[], upd_same, .nil⟩⟩, ?_⟩
  rintro i m H' ⟨rfl, hi, sd, t, acc, M, hl, hwv, Aw, Af⟩
  by_cases hlt : i < n
  · obtain ⟨Nx, hNx⟩ : ∃ Nx : Hp → Prop, Nx = fun H2 => i + 1 ≤ n ∧ Sd H2 ∧ Tk H H2 ∧ ∃ acc M, acc.length = i + 1 ∧ Wv (i + 1) acc M ∧ At X.w X.K ⟨C.W, C.H0, wipeG C.G [j], M ++ [(D, Mo.l acc)]⟩ (wipe σ [j]) H2 ∧ At X.w X.K ⟨C.W, C.H0, C.G, M ++ [(D, Mo.l acc)]⟩ σ H2 := ⟨_, rfl⟩
    refine .inr ⟨hgo i H' sd hlt, Nx, fun H2 hn => ?_, fun x H2 hy => ?_⟩
    · subst hNx
      obtain ⟨q1, q2, q3, q4⟩ := hn
      exact ⟨n - (i + 1), by omega, rfl, q1, q2, q3, q4⟩
    obtain ⟨e2, hx⟩ := hyld i H' x H2 sd hlt hy
    subst e2
    refine ⟨by show wipe ((wipe σ [j]).set j (some x)) [j] = wipe σ [j]; rw [wipe_set _ _ _ (List.mem_cons_self), wipe_idem σ [j] [j] fun _ h => h], @iteT _ (Nx H2) ?_⟩
    intro s H0 Cc cl fp
    refine hs i acc M D hlt hl hwv s H0 Cc cl fp _ _ (Aw.set j hx) _ fun o M2 v H3 ⟨M', e3, hw3⟩ t3 A3 r3 => ?_
    subst e3
    obtain ⟨us, u1, u2, A4, t4⟩ := lc_put Aw t3 A3 r3 (by rw [hl]; omega)
    obtain ⟨us', u1', u2', A5, t5⟩ := lc_put Af t3 A3 r3 (by rw [hl]; omega)
    rw [u1] at u1'
    cases u1'
    refine ⟨us, u1, u2, ?_⟩
    rw [hNx]
    exact ⟨hlt, sdm _ _ sd (t3.trans t4), (t.trans t3).trans t4, acc ++ [o], M', by simp [hl], hw3, A4, A5⟩
  · have e0 : i = n := by omega
    subst e0
    exact .inl ⟨hstop i H' sd (Nat.le_refl _), q _ _ _ _ (hd acc M D hl hwv) t Af rfl⟩
theorem so_setLc2 {y y2 : Str} {tg : Expr} {n : Nat} {i1 i2 : Nat → NestedKey} (j j2 : Nat) (hjj : j ≠ j2) (hc : X.calm = true) (hN : X.N.Nodup) (ok : BlkOk X.N X.env.scope scope [(y, j), (y2, j2)]) (hz : n ≤ sizeLine)
    (hgn : ∀ (s : Shared) (H : Hp) (Cc : Addr) (cl : List (Str × Addr)) (fp : List Addr), PG (X.blk s H scope (compEnvC scope cl Cc X.env) fp) tg (gTup X.K 2 (gCons (gName j) (gCons (gName j2) gNil)))) (hi : IR X C tg iter n (fun i => .tup [i1 i, i2 i]))
    (Wv : Nat → List Ob → Ms → Prop) (h0 : Wv 0 [] C.M)
    (hs : ∀ i acc M D, i < n → acc.length = i → Wv i acc M → ∀ (s : Shared) (H : Hp) (Cc : Addr) (cl : List (Str × Addr)) (fp : List Addr), EX (X.blk s H scope (compEnvC scope cl Cc X.env) fp) ⟨C.W, C.H0, ((wipeG C.G [j, j2]).set j (some (.d (i1 i)))).set j2 (some (.d (i2 i))), M ++ [(D, Mo.l acc)]⟩ elt fun o M2 => ∃ M', M2 = M' ++ [(D, Mo.l acc)] ∧ Wv (i + 1) (acc ++ [o]) M')
    (hd : ∀ acc M D, acc.length = n → Wv n acc M → P (.r D) (M ++ [(D, Mo.l acc)])) (hf : ∀ x, foldedSetIterable iter X.env x = pure x := by intro _; rfl) (ii : Nat) (hP : ∀ o M, P o M → SO X z { C with G := C.G.set ii (some o), M := M } rest ae) (hyl : X.env.scope.names.lookup yy = some .local) (hsw : swapsWith (.ListComp elt [⟨tg, iter, [], 0⟩] scope pos) (some (.Name yy py)) spos.line X.env = pure true) (hy : X.N[ii]? = some yy := by rfl) : SO X z C (.Assign [.Name yy py] (.ListComp elt [⟨tg, iter, [], 0⟩] scope pos) spos :: rest) ae := by
  obtain ⟨wi, hwi, hw⟩ := hi
  intro D0 σ H hD A
  have q : ∀ o M v H', P o M → Tk H H' → At X.w X.K { C with M := M } σ H' → o.is X.K H' v → (wSs X rest D0) (σ.set ii (some v)) H' := fun o M v H' p t A' r => hP o M p D0 _ _ (hD.after t) (A'.set ii r)
  refine ws_cons (ps_setLc (i := ii) (own := [(y, j), (y2, j2)]) (g := gTup X.K 2 (gCons (gName j) (gCons (gName j2) gNil))) (tt := tYes) (te := fun σ H Q => ∀ (s : Shared) (H0 : Hp) (Cc : Addr) (cl : List (Str × Addr)) (fp : List Addr), wE (X.blk s H0 scope (compEnvC scope cl Cc X.env) fp) elt σ H Q)
    hc hN hy hyl hsw hwi ok hgn (fun _ _ _ _ _ => pts_nil) (fun s H Cc cl fp => ⟨fun pins s' σ H' Q I h => h s H Cc cl fp pins s' I⟩) hf) ?_
  refine hw σ H A _ fun J H1 Sd t1 A1 sd1 sdm hstop hgo hyld => ?_
  intro D hD
  have A1w := (A1.moNew (m := .l []) (u := .lst []) hD ⟨[], upd_same, .nil⟩).wipe [j, j2]
  refine ⟨fun i m H' => m = n - i ∧ i ≤ n ∧ Sd H' ∧ Tk H H' ∧ ∃ acc M, acc.length = i ∧ Wv i acc M ∧ At X.w X.K ⟨C.W, C.H0, wipeG C.G [j, j2], M ++ [(D, Mo.l acc)]⟩ (wipe σ [j, j2]) H' ∧ At X.w X.K ⟨C.W, C.H0, C.G, M ++ [(D, Mo.l acc)]⟩ σ H', ⟨n, by simp, Nat.zero_le _, sdm _ _ sd1 (Tk.new hD), t1.trans (Tk.new hD), [], C.M, rfl, h0, A1w, A1.moNew (m := .l []) (u := .lst []) hD ⟨[], upd_same, .nil⟩⟩, ?_⟩
  rintro i m H' ⟨rfl, hi, sd, t, acc, M, hl, hwv, Aw, Af⟩
  by_cases hlt : i < n
  · obtain ⟨Nx, hNx⟩ : ∃ Nx : Hp → Prop, Nx = fun H2 => i + 1 ≤ n ∧ Sd H2 ∧ Tk H H2 ∧ ∃ acc M, acc.length = i + 1 ∧ Wv (i + 1) acc M ∧ At X.w X.K ⟨C.W, C.H0, wipeG C.G [j, j2], M ++ [(D, Mo.l acc)]⟩ (wipe σ [j, j2]) H2 ∧ At X.w X.K ⟨C.W, C.H0, C.G, M ++ [(D, Mo.l acc)]⟩ σ H2 := ⟨_, rfl⟩
    refine .inr ⟨hgo i H' sd hlt, Nx, fun H2 hn => ?_, fun x H2 hy => ?_⟩
    · subst hNx
      obtain ⟨q1, q2, q3, q4⟩ := hn
      exact ⟨n - (i + 1), by omega, rfl, q1, q2, q3, q4⟩
    obtain ⟨e2, hx⟩ := hyld i H' x H2 sd hlt hy
    subst e2
    obtain ⟨a1, xs, rfl, hsq, hdv⟩ := Dv.tup_inv hx
    obtain ⟨x1, x2, rfl, d1, d2⟩ : ∃ x1 x2, xs = [x1, x2] ∧ Dv X.K H2 (i1 i) x1 ∧ Dv X.K H2 (i2 i) x2 := by
      cases hdv with
      | cons d1 r => cases r with | cons d2 r => cases r; exact ⟨_, _, rfl, d1, d2⟩
    refine ⟨a1, [x1, x2], rfl, hsq, rfl, x1, [x2], rfl, x2, [], rfl, rfl, by show wipe (((wipe σ [j, j2]).set j (some x1)).set j2 (some x2)) [j, j2] = wipe σ [j, j2]; rw [wipe_set _ _ _ (by simp), wipe_set _ _ _ (by simp), wipe_idem σ [j, j2] [j, j2] fun _ h => h], @iteT _ (Nx H2) ?_⟩
    intro s H0 Cc cl fp
    refine hs i acc M D hlt hl hwv s H0 Cc cl fp _ _ ((Aw.set j (o := .d (i1 i)) d1).set j2 (o := .d (i2 i)) d2) _ fun o M2 v H3 ⟨M', e3, hw3⟩ t3 A3 r3 => ?_
    subst e3
    obtain ⟨us, u1, u2, A4, t4⟩ := lc_put Aw t3 A3 r3 (by rw [hl]; omega)
    obtain ⟨us', u1', u2', A5, t5⟩ := lc_put Af t3 A3 r3 (by rw [hl]; omega)
    rw [u1] at u1'
    cases u1'
    refine ⟨us, u1, u2, ?_⟩
    rw [hNx]
    exact ⟨hlt, sdm _ _ sd (t3.trans t4), (t.trans t3).trans t4, acc ++ [o], M', by simp [hl], hw3, A4, A5⟩
  · have e0 : i = n := by omega
    subst e0
    exact .inl ⟨hstop i H' sd (Nat.le_refl _), q _ _ _ _ (hd acc M D hl hwv) t Af rfl⟩
end
end Brd
namespace Brd
open PySem PySem.Spec PyProof.Rows L2
/-! ### dicts with nested keys -/
abbrev PE2 (K : PySem.W.Frag) (H : Hp) : List (NestedKey × NestedKey) → List (NestedKey × Addr × Value) → Prop := Paired fun (e : NestedKey × NestedKey) (x : NestedKey × Addr × Value) => e.1 = x.1 ∧ e.1.depth ≤ 8 ∧ Dv K H e.1 (.ref x.2.1) ∧ ∃ v, RelV v x.2.2 ∧ Dv K H e.2 v
theorem PE2.keys {K : PySem.W.Frag} {H : Hp} : ∀ {es : List (NestedKey × NestedKey)} {xs : List (NestedKey × Addr × Value)}, PE2 K H es xs → es.map (·.1) = xs.map (·.1)
  | _, _, .nil => rfl
  | _, _, .cons h t => by rw [List.map_cons, List.map_cons, h.1, PE2.keys t]
section
variable {X : Cx} {pins : List (Addr × Obj)} {σ : L2.St} {H : Hp} {s : Shared} {a : Addr} {o : Obj} {es : List (NestedKey × NestedKey)}
theorem dct_obj (I : Inv X pins σ H s) (D : DctAt X.w X.K H a o es) : s.heap.get? a = some o := by
  obtain ⟨_, _, ds, ep, xs, h1, _⟩ := D
  exact (I.hok a _ h1).1
theorem dct_of (I : Inv X pins σ H s) (D : DctAt X.w X.K H a o es) : ∃ xs, s.heap.DictOfH (nestedKind X.prog X.w) a xs ∧ PE2 X.K H es xs := by
  have ho := dct_obj I D
  obtain ⟨_, _, ds, ep, xs, h1, h2, h3, h4, h5, h6⟩ := D
  refine ⟨xs, ⟨o, ds, ep, ho, h2, h3, h4, fun x hx => ?_, h5⟩, h6⟩
  obtain ⟨i, hi⟩ := List.mem_iff_getElem?.mp hx
  have hl : es.length = xs.length := Paired.length h6
  have hi' : i < es.length := by rw [hl]; exact (List.getElem?_eq_some_iff.mp hi).1
  obtain ⟨y, hy, r⟩ := Brd.paired_get h6 (List.getElem?_eq_getElem hi')
  rw [hi] at hy
  cases hy
  obtain ⟨e1, e2, e3, _⟩ := r
  rw [← e1]
  exact ⟨Dv.nested I _ _ _ e3 rfl, e2⟩
theorem pe2_app {K : PySem.W.Frag} {H : Hp} : ∀ {es fs : List (NestedKey × NestedKey)} {xs ys : List (NestedKey × Addr × Value)}, PE2 K H es xs → PE2 K H fs ys → PE2 K H (es ++ fs) (xs ++ ys)
  | _, _, _, _, .nil, g => g
  | _, _, _, _, .cons h t, g => .cons h (pe2_app t g)
/-- the object is another now -/
theorem dct_write {h' : Heap} {t' : Nat} {es' : List (NestedKey × NestedKey)} {xs' : List (NestedKey × Addr × Value)} (I : Inv X pins σ H s) (D : DctAt X.w X.K H a o es) (hs : Heap.SameBut a s.heap h') (hd : h'.DictOfH (nestedKind X.prog X.w) a xs') (p : PE2 X.K H es' xs') (hz : es'.length ≤ sizeLine) :
    ∃ (o' : Obj) (φ : Heap → Prop), Inv X pins σ (upd H a (.ext φ)) { s with heap := h', toks := t' } ∧ DctAt X.w X.K (upd H a (.ext φ)) a o' es' := by
  obtain ⟨o', ds, ep, ho, hx, hdt, hl, hk, hn⟩ := id hd
  obtain ⟨h0, _, _, _, _, h1, _⟩ := D
  have t : Tk H (upd H a (.ext fun h => h.get? a = some o')) := Tk.write h1 (fun _ z => by cases z) (fun _ _ z => by cases z)
  refine ⟨o', fun h => h.get? a = some o', d_write I (by rw [h1]; exact True.intro) hs ⟨_, ho⟩ ⟨ho, ⟨_, ho⟩, fun h1 h2 q e => e _ q⟩, h0, hz, ds, ep, xs', upd_same, hx, hdt, hl, hn, Paired.mapP p fun x y ⟨a1, a2, a3, v, a4, a5⟩ => ⟨a1, a2, Dv.mono t _ _ a3, v, a4, Dv.mono t _ _ a5⟩⟩
theorem pe2_key {K : PySem.W.Frag} {H : Hp} {xs : List (NestedKey × Addr × Value)} {es : List (NestedKey × NestedKey)} (p : PE2 K H es xs) (hn : (xs.map (·.1)).Nodup) {k v : NestedKey} (h : (k, v) ∈ es) : ∃ q, atKey xs k = some q ∧ ∃ y, RelV y q.2 ∧ Dv K H v y := by
  obtain ⟨i, hi⟩ := List.mem_iff_getElem?.mp h
  obtain ⟨⟨k', q⟩, hy, e1, e2, e3, y, e4, e5⟩ := Brd.paired_get p hi
  have e1 : k = k' := e1
  subst e1
  exact ⟨q, atKey_of_get hn hy, y, e4, e5⟩
theorem pe2_none {K : PySem.W.Frag} {H : Hp} {xs : List (NestedKey × Addr × Value)} {es : List (NestedKey × NestedKey)} (p : PE2 K H es xs) {k : NestedKey} (h : k ∉ es.map (·.1)) : atKey xs k = none := by
  refine atKey_none_of_get fun j q hq => h ?_
  rw [PE2.keys p]
  exact List.mem_map.mpr ⟨_, List.mem_of_getElem? hq, rfl⟩
theorem pe2_in {K : PySem.W.Frag} {H : Hp} {xs : List (NestedKey × Addr × Value)} {es : List (NestedKey × NestedKey)} (p : PE2 K H es xs) (hn : (xs.map (·.1)).Nodup) (k : NestedKey) : (atKey xs k).isSome = decide (k ∈ es.map (·.1)) := by
  by_cases h : k ∈ es.map (·.1)
  · rw [decide_eq_true h]
    obtain ⟨⟨k', v⟩, hm, e⟩ := List.mem_map.mp h
    have e : k' = k := e
    subst e
    obtain ⟨q, hq, _⟩ := pe2_key p hn hm
    rw [hq]; rfl
  · rw [decide_eq_false h, pe2_none p h]; rfl
theorem nk_nodup {h : Heap} {xs : List (NestedKey × Addr × Value)} (d : h.DictOfH (nestedKind X.prog X.w) a xs) : (xs.map (·.1)).Nodup := let ⟨_, _, _, _, _, _, _, _, n⟩ := d; n
theorem nk_room (hu : X.A.units + 64 < cLine) : (nestedKind X.prog X.w).room X.A.in1 := by
  show X.A.in1.units + 8 < cLine
  simp only [Around.in1_units]
  omega
end
section
variable {X : Cx} {C : Ct} {e a b c : Expr} {P : Pk} {o : Ob} {pos p2 : Pos} {rest : List Stmt} {z : Zx} {ae : AE}
/-- k in d -/
theorem op_inD (hu : X.A.units + 64 < cLine) : OpR X (compareOp .In) fun x y H Q => ∃ k d ob es, Dv X.K H (.tup k) x ∧ y = .ref d ∧ DctAt X.w X.K H d ob es ∧ (NestedKey.tup k).depth ≤ 8 ∧ Q (.bl (decide (NestedKey.tup k ∈ es.map (·.1)))) H := by
  intro pins s σ H x y v u Q I rx ry ⟨k, d, ob, es, hx, ey, D, hd, q⟩
  subst ey
  cases ry
  obtain ⟨a1, xs1, rfl, _, _⟩ := Dv.tup_inv hx
  cases rx
  obtain ⟨xs, dd, pp⟩ := dct_of I D
  refine wpAny_in_heap (knd := nestedKind X.prog X.w) (nk_room hu) ⟨Dv.nested I _ _ _ hx rfl, hd⟩ D.1 dd ?_
  rw [pe2_in pp (nk_nodup dd)]
  exact ⟨.bl _, H, I.tok _, rfl, q⟩
theorem op_notInD (hu : X.A.units + 64 < cLine) : OpR X (compareOp .NotIn) fun x y H Q => ∃ k d ob es, Dv X.K H (.tup k) x ∧ y = .ref d ∧ DctAt X.w X.K H d ob es ∧ (NestedKey.tup k).depth ≤ 8 ∧ Q (.bl (!decide (NestedKey.tup k ∈ es.map (·.1)))) H := by
  intro pins s σ H x y v u Q I rx ry ⟨k, d, ob, es, hx, ey, D, hd, q⟩
  subst ey
  cases ry
  obtain ⟨a1, xs1, rfl, _, _⟩ := Dv.tup_inv hx
  cases rx
  obtain ⟨xs, dd, pp⟩ := dct_of I D
  refine notIn_keyed (knd := nestedKind X.prog X.w) (nk_room hu) ⟨Dv.nested I _ _ _ hx rfl, hd⟩ D.1 ⟨xs, dd, rfl⟩ ?_
  have e : (valueAt (pairsH xs) (NestedKey.tup k)).isSome = decide (NestedKey.tup k ∈ es.map (·.1)) := by
    rw [valueAt_pairsH, Option.isSome_map, pe2_in pp (nk_nodup dd)]
  rw [e]
  exact ⟨.bl _, H, I.tok _, rfl, q⟩
theorem op_itemD (hu : X.A.units + 64 < cLine) : OpR X getItem fun x y H Q => ∃ k v d ob es, Dv X.K H (.tup k) y ∧ x = .ref d ∧ DctAt X.w X.K H d ob es ∧ (NestedKey.tup k).depth ≤ 8 ∧ (.tup k, v) ∈ es ∧ ∀ y', Dv X.K H v y' → Q y' H := by
  intro pins s σ H x y v u Q I rx ry ⟨k, kv, d, ob, es, hx, ey, D, hd, hm, q⟩
  subst ey
  cases rx
  obtain ⟨a1, xs1, rfl, _, _⟩ := Dv.tup_inv hx
  cases ry
  obtain ⟨xs, dd, pp⟩ := dct_of I D
  obtain ⟨q1, h1, y', h2, h3⟩ := pe2_key pp (nk_nodup dd) hm
  exact wpAny_getItem_heap (knd := nestedKind X.prog X.w) (nk_room hu) ⟨Dv.nested I _ _ _ hx rfl, hd⟩ dd h1 ⟨y', H, I.tok _, h2, q y' h3⟩
theorem ix_dct (hu : X.A.units + 64 < cLine) : IxR X fun x y H Q => ∃ k v d ob es, Dv X.K H (.tup k) y ∧ x = .ref d ∧ DctAt X.w X.K H d ob es ∧ (NestedKey.tup k).depth ≤ 8 ∧ (.tup k, v) ∈ es ∧ ∀ y', Dv X.K H v y' → Q y' H := by
  intro value slice pins s σ H x y v u Q I rx ry h hs
  have h1 := op_itemD hu pins s σ H x y v u Q I rx ry h
  obtain ⟨k, kv, d, ob, es, hx, ey, D, hd, hm, q⟩ := h
  subst ey
  cases rx
  obtain ⟨xs, dd, pp⟩ := dct_of I D
  exact tail_any dd.typeIs (PySem.slot_dict_getitem.lookup) h1 hs
theorem set_dct (hu : X.A.units + 64 < cLine) : PSet X fun x i v H Q => ∃ k kv d ob es, Dv X.K H (.tup k) i ∧ Dv X.K H kv v ∧ x = .ref d ∧ DctAt X.w X.K H d ob es ∧ (NestedKey.tup k).depth ≤ 8 ∧ NestedKey.tup k ∉ es.map (·.1) ∧ es.length < sizeLine ∧
    ∀ ob' φ, DctAt X.w X.K (upd H d (.ext φ)) d ob' (es ++ [(.tup k, kv)]) → Q (upd H d (.ext φ)) := by
  intro pins s σ H x i v ov iv u Q I ro ri rv ⟨k, kv, d, ob, es, hi, hv, ex, D, hd, hno, hz, q⟩
  subst ex
  cases ro
  obtain ⟨a1, xs1, rfl, _, _⟩ := Dv.tup_inv hi
  cases ri
  obtain ⟨xs, dd, pp⟩ := dct_of I D
  have hl : es.length = xs.length := Paired.length pp
  refine wpAny_setItem_heap (knd := nestedKind X.prog X.w) (nk_room hu) ⟨Dv.nested I _ _ _ hi rfl, hd⟩ dd (fun h' hd' hs => ?_) (by omega)
  rw [storedH_new (pe2_none pp hno)] at hd'
  obtain ⟨ob', φ, I', D'⟩ := dct_write (t' := s.toks + (nestedKind X.prog X.w).draws (.tup k)) I D hs hd' (es' := es ++ [(.tup k, kv)]) (pe2_app pp (.cons ⟨rfl, hd, hi, v, rv, hv⟩ .nil)) (by rw [List.length_append]; exact hz)
  exact ⟨_, I', q ob' φ D'⟩

/-! ### at the level of states -/
variable {k v : NestedKey} {ks : List NestedKey} {l : Addr} {ob : Obj} {es : List (NestedKey × NestedKey)} {j : Nat}
theorem eb_inD (hu : X.A.units + 64 < cLine) (ha : ED X C a (.tup ks)) (hb : ED X C b (.r l)) (hM : C.M[j]? = some (l, Mo.dct ob es)) (hd : (NestedKey.tup ks).depth ≤ 8) (hm : behindInMarks .In b = false := by first | exact nomark _ | rfl) : EB X C (.Compare a [.In] [b] pos) (decide (NestedKey.tup ks ∈ es.map (·.1))) :=
  et_cmp (op_inD hu) (ha.ex (hb.ex fun σ H x y A r1 r2 Q q => ⟨ks, l, ob, es, r1, r2, A.at_ hM, hd, q _ _ _ H ⟨_, rfl, rfl, rfl⟩ (Tk.refl H) A rfl⟩)) hm
theorem eb_notInD (hu : X.A.units + 64 < cLine) (ha : ED X C a (.tup ks)) (hb : ED X C b (.r l)) (hM : C.M[j]? = some (l, Mo.dct ob es)) (hd : (NestedKey.tup ks).depth ≤ 8) (hm : behindInMarks .NotIn b = false := by first | exact nomark _ | rfl) : EB X C (.Compare a [.NotIn] [b] pos) (!decide (NestedKey.tup ks ∈ es.map (·.1))) :=
  et_cmp (op_notInD hu) (ha.ex (hb.ex fun σ H x y A r1 r2 Q q => ⟨ks, l, ob, es, r1, r2, A.at_ hM, hd, q _ _ _ H ⟨_, rfl, rfl, rfl⟩ (Tk.refl H) A rfl⟩)) hm
theorem ed_ixD (hu : X.A.units + 64 < cLine) (ha : ED X C a (.r l)) (hb : ED X C b (.tup ks)) (hM : C.M[j]? = some (l, Mo.dct ob es)) (hd : (NestedKey.tup ks).depth ≤ 8) (hm : (NestedKey.tup ks, v) ∈ es) (hs : PlainIx b := by intro _ _; rfl) : ED X C (.Subscript a b pos) (.d v) :=
  ex_ix (ix_dct hu) (ha.ex (hb.ex fun σ H x y A r1 r2 Q q => ⟨ks, v, l, ob, es, r2, r1, A.at_ hM, hd, hm, fun y' hy => q _ _ _ H ⟨rfl, rfl⟩ (Tk.refl H) A hy⟩)) hs
theorem so_setD {k1 : Pos} (hu : X.A.units + 64 < cLine) (h : EX X C e fun o M => EX X { C with M := M } a fun o1 M1 => EX X { C with M := M1 } b fun o2 M2 => ∃ (kv : NestedKey) (l : Addr) (j : Nat) (ob : Obj) (es : List (NestedKey × NestedKey)) (ks : List NestedKey), o = .d kv ∧ o1 = .r l ∧ o2 = .tup ks ∧ M2[j]? = some (l, Mo.dct ob es) ∧ (NestedKey.tup ks).depth ≤ 8 ∧ NestedKey.tup ks ∉ es.map (·.1) ∧ es.length < sizeLine ∧ ∀ ob', SO X z { C with M := M2.set j (l, Mo.dct ob' (es ++ [(.tup ks, kv)])) } rest ae)
    (hs : swapsWithSole [.Subscript a b k1] e pos.line X.env = pure false := by rfl) (hw : swappedStores [.Subscript a b k1] e X.env = pure none := by rfl)
    (h1 : (assignEach [.Subscript a b k1] X.env).map (·.2) = [assign (.Subscript a b k1) X.env] := by rfl)
    (ha : ∀ v, assign (.Subscript a b k1) X.env v = (do
      let ov ← holding [v] (eval a X.env)
      let iv ← holding [v, ov] (eval b X.env)
      standAt k1
      holding [v, ov, iv] (setItem ov iv v)
      release [v, ov, iv] []) := by intro _; rfl) : SO X z C (.Assign [.Subscript a b k1] e pos :: rest) ae := fun D σ H hD A =>
  ws_cons (ps_asg pe_w (pg_sub pe_w pe_w (set_dct hu) ha) hs hw h1) (h σ H A _ fun o M v H1 p1 t1 A1 r1 => p1 σ H1 A1 _ fun o1 M1 v1 H2 p2 t2 A2 r2 => p2 σ H2 A2 _ fun o2 M2 v2 H3 ⟨kv, l, j, ob, es, ks, e0, e1, e2, hM, hd, hno, hz, pp⟩ t3 A3 r3 => by
    subst e0 e1 e2
    refine ⟨ks, kv, l, ob, es, r3, (r1.mono t2).mono t3, r2, A3.at_ hM, hd, hno, hz, fun ob' φ D' => ?_⟩
    obtain ⟨A4, t4⟩ := A3.write (m' := Mo.dct ob' (es ++ [(NestedKey.tup ks, kv)])) (u := .ext φ) hM fun _ => D'
    exact pp ob' D _ _ (hD.after (((t1.trans t2).trans t3).trans t4)) A4)
end
/-! ### a display of one pair -/
def obD0 : Obj := { cls := .type "dict", data := .dict #[] }
theorem dct_new {X : Cx} {pins : List (Addr × Obj)} {σ : L2.St} {H : Hp} {s : Shared} (I : Inv X pins σ H s) : DctAt X.w X.K (upd H s.heap.objs.size (.ext fun h => h.get? s.heap.objs.size = some obD0)) s.heap.objs.size obD0 [] :=
  ⟨beq_eq_false_iff_ne.mpr (fun e => absurd I.big (by rw [e]; exact Nat.lt_irrefl _)), Nat.zero_le _, #[], 0, [], upd_same, ⟨rfl, rfl, rfl⟩, rfl, rfl, List.nodup_nil, .nil⟩
theorem pe_dct1 {X : Cx} {ek ev : Expr} {tk tv : TE} {pos : Pos} (hu : X.A.units + 64 < cLine) (hk : PE X ek tk) (hv : PE X ev tv) : PE X (.Dict [some ek] [ev] pos) fun σ H Q => ∀ p φ0, H p = none → DctAt X.w X.K (upd H p (.ext φ0)) p obD0 [] → tk σ (upd H p (.ext φ0)) fun x H1 => tv σ H1 fun y H2 => ∃ k kv, Dv X.K H2 (.tup k) x ∧ Dv X.K H2 kv y ∧ (NestedKey.tup k).depth ≤ 8 ∧ DctAt X.w X.K H2 p obD0 [] ∧ ∀ ob' φ, DctAt X.w X.K (upd H2 p (.ext φ)) p ob' [(.tup k, kv)] → Q (.ref p) (upd H2 p (.ext φ)) := by
  refine ⟨fun pins s σ H Q I q => ?_⟩
  have hn := I.hok.fresh (Nat.le_refl s.heap.objs.size)
  have I1 := I.laid (a := s.heap.objs.size) (o := .ext fun h => h.get? s.heap.objs.size = some obD0) (h' := s.heap.push obD0) (t' := s.toks) (fun _ _ q => Heap.get?_push_of_some _ q) (Nat.le_refl _) ⟨Heap.get?_push_size _ rfl, ⟨_, Heap.get?_push_size _ rfl⟩, fun h1 h2 q e => e _ q⟩
  rw [arm_eval_Dict, zip_pairTrees [some ek] [ev] X.env pos rfl rfl, dictDisplay_pairs (pairTrees [some ek] [ev] X.env pos) (by intro h; cases h) (by show 1 < 17; decide)]
  refine wpAny_bind (wpAny_standAt (wpAny_bind (wpAny_subDictH (knd := nestedKind X.prog X.w) (by show X.A.units + 8 < cLine; omega) (by show 1 ≤ 15; decide) ?_)))
  refine pairTrees_cons_walk (thn (hk.run pins _ σ _ _ I1 (q _ _ hn (dct_new I))) fun u s1 ⟨x, H1, I1', rx, q1⟩ => thn (hv.run pins s1 σ H1 _ I1' q1) fun w2 s2 ⟨y, H2, I2, ry, k, kv, hx, hy, hd, D, q2⟩ => ?_)
  refine pairTrees_nil_walk ?_
  obtain ⟨a1, xs1, rfl, _, _⟩ := Dv.tup_inv hx
  cases rx
  obtain ⟨xs, dd, pp⟩ := dct_of I2 D
  cases pp
  refine ⟨[(.tup k, a1, w2)], ⟨rfl, rfl, ⟨Dv.nested I2 _ _ _ hx rfl, hd⟩, True.intro⟩, dd, fun h' tk hd' hs => wpAny_pure ?_⟩
  have e : storedAllH ([] : List (NestedKey × Addr × Value)) [(.tup k, a1, w2)] = [(.tup k, a1, w2)] := rfl
  rw [e] at hd'
  obtain ⟨ob', φ, I', D'⟩ := dct_write (t' := tk) I2 D hs hd' (es' := [(.tup k, kv)]) (.cons ⟨rfl, hd, hx, y, ry, hy⟩ .nil) (by have := sizeLine_eq; simp only [List.length_cons, List.length_nil]; omega)
  exact ⟨.ref s.heap.objs.size, _, I', rfl, q2 ob' φ D'⟩
theorem ex_dct1 {X : Cx} {C : Ct} {ek ev : Expr} {P : Pk} {pos : Pos} {ks : List NestedKey} {kv : NestedKey} (hu : X.A.units + 64 < cLine) (hk : ∀ M, ED X { C with M := M } ek (.tup ks)) (hv : ∀ M, ED X { C with M := M } ev (.d kv)) (hd : (NestedKey.tup ks).depth ≤ 8) (h : ∀ p ob, P (.r p) (C.M ++ [(p, Mo.dct ob [(.tup ks, kv)])])) : EX X C (.Dict [some ek] [ev] pos) P := fun σ H A Q q =>
  we_of (pe_dct1 hu pe_w pe_w) (fun p φ0 hp D0 => by
    have A1 := A.moNew (m := .dct obD0 []) (u := .ext φ0) hp D0
    refine hk _ σ _ A1 _ fun o1 M1 x H1 ⟨e1, e2⟩ t1 A2 r1 => ?_
    subst e1 e2
    refine hv _ σ H1 A2 _ fun o2 M2 y H2 ⟨e3, e4⟩ t2 A3 r2 => ?_
    subst e3 e4
    have hM : (C.M ++ [(p, Mo.dct obD0 [])])[C.M.length]? = some (p, Mo.dct obD0 []) := by simp
    refine ⟨ks, kv, r1.mono t2, r2, hd, A3.at_ (i := C.M.length) hM, fun ob' φ D' => ?_⟩
    obtain ⟨A4, t4⟩ := A3.write (i := C.M.length) (m' := .dct ob' [(.tup ks, kv)]) (u := .ext φ) hM fun _ => D'
    have A5 : At X.w X.K { C with M := (C.M ++ [(p, Mo.dct obD0 [])]).set C.M.length (p, Mo.dct ob' [(.tup ks, kv)]) } σ (upd H2 p (.ext φ)) := A4
    have e9 : (C.M ++ [(p, Mo.dct obD0 [])]).set C.M.length (p, Mo.dct ob' [(.tup ks, kv)]) = C.M ++ [(p, Mo.dct ob' [(.tup ks, kv)])] := set_last
    rw [e9] at A5
    have t0 : Tk H (upd H p (.ext φ0)) := Tk.new hp
    exact q _ _ _ _ (h p ob') (((t0.trans t1).trans t2).trans t4) A5 rfl)
/-! ### for key in d -/
def Itn (w : World) (K : PySem.W.Frag) (d : Addr) (ob : Obj) (es : List (NestedKey × NestedKey)) : It :=
  ⟨fun i H => DctAt w K H d ob es ∧ i < es.length, fun i H x H' => H' = H ∧ ∃ k v, es[i]? = some (k, v) ∧ Dv K H k x, fun i H => DctAt w K H d ob es ∧ es.length ≤ i⟩
theorem dct_ent {w : World} {K : PySem.W.Frag} {H : Hp} {d : Addr} {ob : Obj} {es : List (NestedKey × NestedKey)} {ds : Array DictEntry} {ep : Nat} (D : DctAt w K H d ob es) (hod : ob.data = .dict ds ep) : ds.size = es.length ∧ ∀ (i : Nat) (k v : NestedKey), es[i]? = some (k, v) → ∃ (en : DictEntry) (q : Addr), ds[i]? = some en ∧ en.key = .ref q ∧ Dv K H k (.ref q) := by
  obtain ⟨_, _, ds', ep', xs, h1, h2, h3, h4, h5, h6⟩ := D
  obtain ⟨rfl, rfl⟩ := dict_ep hod h3
  have hl : es.length = xs.length := Paired.length h6
  refine ⟨by rw [← Array.length_toList, h4, List.length_map, hl], fun i k v e => ?_⟩
  obtain ⟨⟨k', q, u⟩, hy, e1, e2, e3, _⟩ := Brd.paired_get h6 e
  have e1 : k = k' := e1
  subst e1
  refine ⟨⟨k.hash w, .ref q, u⟩, q, ?_, rfl, e3⟩
  rw [← Array.getElem?_toList, h4, List.getElem?_map, hy]
  rfl
theorem turn_nk {P : Program} {w : World} {K : PySem.W.Frag} {tg : Expr} {d : Addr} {ob : Obj} {es : List (NestedKey × NestedKey)} {ds : Array DictEntry} {ep : Nat} (it : Addr) (hod : ob.data = .dict ds ep) : Turn P w K tg (Itn w K d ob es) [it] it (fun i h => h.IsKeyIter it d i es.length ep) where
  mem := by simp
  obj := fun i h st b hb => by
    have e : b = it := by simpa using hb
    subst e
    obtain ⟨oi, e, c, dd⟩ := st
    exact ⟨oi, e, fun v z => by rw [dd] at z; cases z⟩
  keep := fun i h h' st k => st.at fun oi e => k it (by simp) oi e
  item := by
    intro X hP hw hK hc i pins s σ H E I hf st hg
    subst hP hw hK
    obtain ⟨D, hi⟩ := hg
    obtain ⟨f0, f1, f2, f3, f4, f5⟩ := hf it (by simp)
    obtain ⟨hsz, ent⟩ := dct_ent D hod
    obtain ⟨⟨k, v⟩, hkv⟩ : ∃ p, es[i]? = some p := ⟨es[i], List.getElem?_eq_getElem hi⟩
    obtain ⟨en, q, hen, hkey, hq⟩ := ent i k v hkv
    refine next_key_item st (dct_obj I D) hod hsz hen fun h' st' sb => ?_
    have I1 : Inv X pins σ H { s with heap := h' } := I.turned (t' := s.toks) (fun b ob hb e => (sb.2 b hb).trans e) f0 f1 f3 f4 f5
    obtain ⟨oi, e, c, dd⟩ := id st'
    exact ⟨en.key, rfl, go_of (s := { s with heap := h' }) e c dd (by decide) ⟨.ref q, H, I1, hkey, ⟨rfl, k, v, hkv, hq⟩, st', fun b hb => (hf b hb).1⟩⟩
  done := by
    intro X hP hw hK hc i pins s σ H E I hf st hg
    subst hP hw hK
    obtain ⟨D, hi⟩ := hg
    obtain ⟨f0, f1, f2, f3, f4, f5⟩ := hf it (by simp)
    obtain ⟨hsz, ent⟩ := dct_ent D hod
    exact next_key_end (I.ok.hd hc) st (dct_obj I D) hod hsz hi fun h' eb => ⟨rfl, I.turned (t' := s.toks) (fun b ob hb e => eb b ob hb e) f0 f1 f3 f4 f5⟩
  self := fun A i s Q E st h => by
    refine wpAny_pyIter_slot st.typeIs F.slot_dict_keyiterator_iter (wpAny_call_entry F.slot_dict_keyiterator_iter st.typeIs F.entry_dict_keyiterator_iter ?_ (F.args_dict_keyiterator_iter_1 _))
    show wpAny _ _ (ret (.ref it)) _ _ s
    exact wpAny_pure ⟨_, rfl, "dict_keyiterator", _, st.typeIs, F.slot_dict_keyiterator_next.lookup, h⟩
theorem pi_nk {X : Cx} {tg e : Expr} {td : TE} (he : PE X e td) : PI X tg e fun σ H R => td σ H fun x H1 => ∃ d ob es, x = .ref d ∧ DctAt X.w X.K H1 d ob es ∧ R (Itn X.w X.K d ob es) H1 := by
  refine ⟨fun pins s σ H R I h => ?_⟩
  refine thn (he.run pins s σ H _ I h) fun u s1 ⟨x, H1, I1, rx, d, ob, es, ex, D, q⟩ => ?_
  subst ex
  obtain rfl : u = Value.ref d := rx
  obtain ⟨h0, _, ds, ep, xs, h1, h2, h3, _⟩ := id D
  obtain ⟨hsz, _⟩ := dct_ent D h3
  refine iter_keys h0 (dct_obj I1 D) h2 h3 (pi_one (tk := s1.toks) I1 _ (turn_nk _ h3) ⟨_, Heap.get?_push_size _ rfl, rfl, ?_⟩ q)
  rw [hsz] <;> rfl
section
variable {X : Cx} {z : Zx} {C : Ct} {e : Expr} {rest body : List Stmt} {ae : AE} {tg : Expr} {pos : Pos}
theorem so_forD {l : Addr} {ob : Obj} {es : List (NestedKey × NestedKey)} {j : Nat} (hp : PassesOwn (model X.prog X.w) X.A X.env X.xe) (hc : X.calm = true) (he : ED X C e (.r l)) (hM : C.M[j]? = some (l, Mo.dct ob es)) (Wv : Nat → Gm → Ms → Prop) (h0 : Wv 0 C.G C.M)
    (hl : ∀ i G M, Wv i G M → ∃ j : Nat, M[j]? = some (l, Mo.dct ob es))
    (hs : ∀ i k v G M, es[i]? = some (k, v) → Wv i G M → GO X ⟨C.W, C.H0, G, M⟩ tg (.d k) fun G' => SO X z ⟨C.W, C.H0, G', M⟩ body (lpE X z C rest ae (Wv (i + 1))))
    (hd : ∀ G M, Wv es.length G M → SO X z ⟨C.W, C.H0, G, M⟩ rest ae) (hf : ∀ x, foldedSetIterable e X.env x = pure x := by intro _; rfl) : SO X z C (.For tg e body [] pos :: rest) ae := fun D σ H hD A =>
  ws_cons (ps_for hp hc (pi_nk pe_w) pg_w pss_w hf) (he σ H A _ fun o M v H1 ⟨e1, e2⟩ t1 A1 r1 => by
    subst e1 e2
    have hD1 := hD.after t1
    cases (show v = V.ref l from r1)
    refine ⟨l, ob, es, rfl, A1.at_ hM, fun i m σ' H' => m = es.length - i ∧ i ≤ es.length ∧ Tk H1 H' ∧ ∃ G M, Wv i G M ∧ At X.w X.K ⟨C.W, C.H0, G, M⟩ σ' H', ⟨es.length, by simp, Nat.zero_le _, Tk.refl _, _, _, h0, A1⟩, ?_⟩
    rintro i m σ' H' ⟨rfl, hi, t, G, M', hw, A'⟩
    obtain ⟨j, hj⟩ := hl i _ _ hw
    have D' : DctAt X.w X.K H' l ob es := A'.at_ hj
    by_cases hlt : i < es.length
    · refine .inr ⟨⟨D', hlt⟩, fun σ2 H2 => Tk H1 H2 ∧ ∃ G M, Wv (i + 1) G M ∧ At X.w X.K ⟨C.W, C.H0, G, M⟩ σ2 H2, fun σ2 H2 ⟨t2, q⟩ => ⟨es.length - (i + 1), by omega, rfl, hlt, t2, q⟩, fun y H2 ⟨e2, k, v, hkv, hy⟩ => ?_⟩
      subst e2
      exact hs i k v G M' hkv hw σ' _ y A' hy _ fun G' σ2 H2 p2 t2 A2 => p2 _ σ2 H2 (lpE_cz hD1 (t.trans t2) fun G'' M'' σ3 H3 q3 t3 A3 => ⟨t3, G'', M'', q3, A3⟩) A2
    · have e0 : i = es.length := by omega
      subst e0
      exact .inl ⟨⟨D', Nat.le_refl _⟩, hd G M' hw D σ' H' (hD1.after t) A'⟩)
end
end Brd
/-! The mathematics, in plain Lean: free reduction by a stack, braids' words, slides. -/
namespace BM
abbrev Wd := List Int

/-! ### the stack (its top first) -/
def psh (s : List Int) (x : Int) : List Int := match s with
  | y :: r => if y = -x then r else x :: y :: r
  | [] => [x]
def act (w : Wd) (s : List Int) : List Int := w.foldl psh s
/-- no number beside its opposite -/
def Rd : List Int → Prop
  | x :: y :: r => x ≠ -y ∧ Rd (y :: r)
  | _ => True
theorem rd_tail {x : Int} {r : List Int} (h : Rd (x :: r)) : Rd r := by
  cases r with
  | nil => trivial
  | cons y r => exact h.2
theorem psh_rd {s : List Int} {x : Int} (h : Rd s) : Rd (psh s x) := by
  cases s with
  | nil => trivial
  | cons y r =>
    unfold psh
    by_cases e : y = -x
    · simp only [e, if_pos]; exact rd_tail h
    · simp only [e, if_neg, if_false]; exact ⟨fun q => e (by omega), h⟩
theorem psh_inv {s : List Int} {x : Int} (h : Rd s) : psh (psh s x) (-x) = s := by
  cases s with
  | nil => simp [psh]
  | cons y r =>
    by_cases e : y = -x
    · subst e
      have e1 : psh (-x :: r) x = r := by simp [psh]
      rw [e1]
      cases r with
      | nil => rfl
      | cons z r =>
        have hz : ¬ z = - -x := fun q => h.1 (by omega)
        show (if z = - -x then r else -x :: z :: r) = _
        rw [if_neg hz]
    · have e1 : psh (y :: r) x = x :: y :: r := by simp [psh, e]
      rw [e1]
      show (if x = - -x then y :: r else _) = _
      rw [if_pos (by omega)]
theorem psh_inv' {s : List Int} {x : Int} (h : Rd s) : psh (psh s (-x)) x = s := by
  have := psh_inv (x := -x) h
  rwa [Int.neg_neg] at this
theorem act_append (u v : Wd) (s : List Int) : act (u ++ v) s = act v (act u s) := List.foldl_append
theorem act_rd : ∀ (w : Wd) {s : List Int}, Rd s → Rd (act w s)
  | [], _, h => h
  | x :: w, _, h => act_rd w (psh_rd h)
theorem act_one (x : Int) (s : List Int) : act [x] s = psh s x := rfl
/-- a stack read from its bottom, one more put on -/
theorem act_push {t : List Int} {x : Int} {s : List Int} (hs : Rd s) : act (psh t x).reverse s = psh (act t.reverse s) x := by
  cases t with
  | nil => rfl
  | cons y r =>
    by_cases e : y = -x
    · subst e
      have e1 : psh (-x :: r) x = r := by simp [psh]
      rw [e1, List.reverse_cons, act_append]
      show _ = psh (psh (act r.reverse s) (-x)) x
      rw [psh_inv' (act_rd _ hs)]
    · have e1 : psh (y :: r) x = x :: y :: r := by simp [psh, e]
      rw [e1, List.reverse_cons, act_append]
      rfl
theorem act_red : ∀ (w : Wd) (t : List Int) {s : List Int}, Rd s → act (act w t).reverse s = act w (act t.reverse s)
  | [], _, _, _ => rfl
  | x :: w, t, s, hs => by
    show act (act w (psh t x)).reverse s = act w (psh (act t.reverse s) x)
    rw [act_red w (psh t x) hs, act_push hs]
theorem act_self : ∀ {t : List Int}, Rd t → act t.reverse [] = t
  | [], _ => rfl
  | [x], _ => rfl
  | x :: y :: r, h => by
    rw [List.reverse_cons, act_append, act_self h.2]
    show (if y = -x then r else x :: y :: r) = _
    rw [if_neg fun q => h.1 (by omega)]

/-! ### alike words, what they come to -/
def eqv (u v : Wd) : Prop := ∀ s, Rd s → act u s = act v s
def put (ws : List Wd) : Wd := (act ws.flatten []).reverse
def opp (w : Wd) : Wd := w.reverse.map fun x => -x
def RW (w : Wd) : Prop := Rd w.reverse
theorem eqv_refl (u : Wd) : eqv u u := fun _ _ => rfl
theorem eqv_symm {u v : Wd} (h : eqv u v) : eqv v u := fun s hs => (h s hs).symm
theorem eqv_trans {u v w : Wd} (h : eqv u v) (g : eqv v w) : eqv u w := fun s hs => (h s hs).trans (g s hs)
theorem eqv_app {u v u' v' : Wd} (h : eqv u u') (g : eqv v v') : eqv (u ++ v) (u' ++ v') := fun s hs => by
  rw [act_append, act_append, h s hs, g _ (act_rd _ hs)]
theorem eqv_put (ws : List Wd) : eqv (put ws) ws.flatten := fun s hs => act_red ws.flatten [] hs
theorem put_rw (ws : List Wd) : RW (put ws) := by
  unfold RW put
  rw [List.reverse_reverse]
  exact act_rd _ (by trivial)
theorem put_of {ws vs : List Wd} (h : eqv ws.flatten vs.flatten) : put ws = put vs := by
  unfold put
  rw [h [] trivial]
theorem put_self {w : Wd} (h : RW w) : put [w] = w := by
  have e : [w].flatten = w := by simp
  unfold put
  rw [e]
  have := act_self (t := w.reverse) h
  rw [List.reverse_reverse] at this
  rw [this, List.reverse_reverse]
theorem rw_eq {u v : Wd} (hu : RW u) (hv : RW v) (h : eqv u v) : u = v := by
  rw [← put_self hu, ← put_self hv]
  exact put_of (by simpa using h)
theorem opp_act : ∀ (w : Wd) {s : List Int}, Rd s → act (opp w) (act w s) = s
  | [], _, _ => rfl
  | x :: w, s, hs => by
    have e : opp (x :: w) = opp w ++ [-x] := by simp [opp]
    rw [e, act_append]
    show psh (act (opp w) (act w (psh s x))) (-x) = s
    rw [opp_act w (psh_rd hs), psh_inv hs]
theorem opp_opp (w : Wd) : opp (opp w) = w := by
  unfold opp
  rw [← List.map_reverse, List.reverse_reverse, List.map_map]
  have : ((fun x : Int => -x) ∘ fun x => -x) = id := by funext x; simp
  rw [this, List.map_id]
theorem act_opp (w : Wd) {s : List Int} (hs : Rd s) : act w (act (opp w) s) = s := by
  have := opp_act (opp w) hs
  rwa [opp_opp] at this
theorem eqv_opp {u v : Wd} (h : eqv u v) : eqv (opp u) (opp v) := fun s hs => by
  have e : s = act v (act (opp v) s) := (act_opp v hs).symm
  have e2 : act (opp u) (act u (act (opp v) s)) = act (opp v) s := opp_act u (act_rd _ hs)
  rw [h _ (act_rd _ hs), ← e] at e2
  exact e2

/-! ### the group -/
instance setoid : Setoid Wd := ⟨eqv, ⟨eqv_refl, eqv_symm, eqv_trans⟩⟩
def G := Quotient setoid
def cls (w : Wd) : G := Quotient.mk setoid w
def gm (a b : G) : G := Quotient.liftOn₂ a b (fun u v => cls (u ++ v)) fun _ _ _ _ h g => Quotient.sound (eqv_app h g)
def gi (a : G) : G := Quotient.liftOn a (fun u => cls (opp u)) fun _ _ h => Quotient.sound (eqv_opp h)
def g1 : G := cls []
theorem cls_app (u v : Wd) : cls (u ++ v) = gm (cls u) (cls v) := rfl
theorem cls_opp (u : Wd) : cls (opp u) = gi (cls u) := rfl
theorem cls_put (ws : List Wd) : cls (put ws) = cls ws.flatten := Quotient.sound (eqv_put ws)
theorem cls_eq {u v : Wd} (hu : RW u) (hv : RW v) (h : cls u = cls v) : u = v := rw_eq hu hv (Quotient.exact h)
theorem gm_assoc (a b c : G) : gm (gm a b) c = gm a (gm b c) := by
  refine Quotient.inductionOn₃ a b c fun u v w => ?_
  show cls ((u ++ v) ++ w) = cls (u ++ (v ++ w))
  rw [List.append_assoc]
theorem gm_1 (a : G) : gm a g1 = a := by
  refine Quotient.inductionOn a fun u => ?_
  show cls (u ++ []) = cls u
  rw [List.append_nil]
theorem g1_m (a : G) : gm g1 a = a := by
  refine Quotient.inductionOn a fun u => ?_
  rfl
theorem gm_gi (a : G) : gm a (gi a) = g1 := by
  refine Quotient.inductionOn a fun u => ?_
  exact Quotient.sound fun s hs => by rw [act_append]; exact opp_act u hs
theorem gi_gm (a : G) : gm (gi a) a = g1 := by
  refine Quotient.inductionOn a fun u => ?_
  exact Quotient.sound fun s hs => by rw [act_append]; exact act_opp u hs
theorem gi_gi (a : G) : gi (gi a) = a := by
  refine Quotient.inductionOn a fun u => ?_
  show cls (opp (opp u)) = cls u
  rw [opp_opp]
theorem opp_app (u v : Wd) : opp (u ++ v) = opp v ++ opp u := by simp [opp]
theorem gi_m (a b : G) : gi (gm a b) = gm (gi b) (gi a) := by
  refine Quotient.inductionOn₂ a b fun u v => ?_
  show cls (opp (u ++ v)) = cls (opp v ++ opp u)
  rw [opp_app]
theorem gi_1 : gi g1 = g1 := rfl
theorem gm_gi_l (a b : G) : gm a (gm (gi a) b) = b := by rw [← gm_assoc, gm_gi, g1_m]
theorem gi_gm_l (a b : G) : gm (gi a) (gm a b) = b := by rw [← gm_assoc, gi_gm, g1_m]

/-! ### rows of the group's things, steps on them -/
abbrev Lay := Nat × Bool
def gstep (g : Nat → G) (l : Lay) : Nat → G := fun i =>
  if i = l.1 then (if l.2 then gm (g l.1) (gm (g (l.1 + 1)) (gi (g l.1))) else g (l.1 + 1))
  else if i = l.1 + 1 then (if l.2 then g l.1 else gm (gi (g (l.1 + 1))) (gm (g l.1) (g (l.1 + 1)))) else g i
/-- what slides must keep -/
structure Acts {α : Type} (T : (Nat → α) → Lay → (Nat → α)) : Prop where
  pair : ∀ g p b, T (T g (p, b)) (p, !b) = g
  turn : ∀ g p b q c, q + 2 ≤ p → T (T g (p, b)) (q, c) = T (T g (q, c)) (p, b)
  three : ∀ g p x y z, ¬ (x = z ∧ y ≠ x) → T (T (T g (p, x)) (p + 1, y)) (p, z) = T (T (T g (p + 1, z)) (p, y)) (p + 1, x)
theorem gstep_acts : Acts gstep where
  pair := fun g p b => by
    funext i
    by_cases h1 : i = p
    · subst h1
      cases b <;> simp [gstep, gm_assoc, gi_m, gi_gi, gm_gi, gi_gm, gm_gi_l, gi_gm_l, gm_1, g1_m]
    · by_cases h2 : i = p + 1
      · subst h2
        cases b <;> simp [gstep, gm_assoc, gi_m, gi_gi, gm_gi, gi_gm, gm_gi_l, gi_gm_l, gm_1, g1_m]
      · simp [gstep, h1, h2]
  turn := fun g p b q c h => by
    funext i
    have e1 : q ≠ p := by omega
    have e2 : q + 1 ≠ p := by omega
    have e3 : q ≠ p + 1 := by omega
    have e4 : q + 1 ≠ p + 1 := by omega
    have e5 : p ≠ q := by omega
    have e6 : p ≠ q + 1 := by omega
    have e7 : p + 1 ≠ q := by omega
    by_cases h1 : i = p
    · subst h1; simp [gstep, e1, e2, e3, e4, e5, e6, e7]
    · by_cases h2 : i = p + 1
      · subst h2; simp [gstep, e1, e2, e3, e4, e5, e6, e7]
      · by_cases h3 : i = q
        · subst h3; simp [gstep, e1, e2, e3, e4, e5, e6, e7]
        · by_cases h4 : i = q + 1
          · subst h4; simp [gstep, e1, e2, e3, e4, e5, e6, e7]
          · simp [gstep, h1, h2, h3, h4]
  three := fun g p x y z h => by
    funext i
    have e0 : p ≠ p + 1 := by omega
    have e1 : p + 1 ≠ p := by omega
    have e2 : p + 1 + 1 ≠ p := by omega
    have e3 : p + 1 + 1 ≠ p + 1 := by omega
    have e4 : p ≠ p + 1 + 1 := by omega
    by_cases h1 : i = p
    · subst h1
      cases x <;> cases y <;> cases z <;> first | (exfalso; exact h ⟨rfl, by decide⟩) | simp [gstep, e0, e1, e2, e3, e4, gm_assoc, gi_m, gi_gi, gm_gi, gi_gm, gm_gi_l, gi_gm_l, gm_1, g1_m]
    · by_cases h2 : i = p + 1
      · subst h2
        cases x <;> cases y <;> cases z <;> first | (exfalso; exact h ⟨rfl, by decide⟩) | simp [gstep, e0, e1, e2, e3, e4, gm_assoc, gi_m, gi_gi, gm_gi, gi_gm, gm_gi_l, gi_gm_l, gm_1, g1_m]
      · by_cases h3 : i = p + 1 + 1
        · subst h3
          cases x <;> cases y <;> cases z <;> first | (exfalso; exact h ⟨rfl, by decide⟩) | simp [gstep, e0, e1, e2, e3, e4, gm_assoc, gi_m, gi_gi, gm_gi, gi_gm, gm_gi_l, gi_gm_l, gm_1, g1_m]
        · simp [gstep, h1, h2, h3]
/-- the sorts -/
def sstep {β : Type} (g : Nat → β) (l : Lay) : Nat → β := fun i => if i = l.1 then g (l.1 + 1) else if i = l.1 + 1 then g l.1 else g i
theorem sstep_acts {β : Type} : Acts (sstep (β := β)) where
  pair := fun g p b => by
    funext i
    by_cases h1 : i = p
    · subst h1; simp [sstep]
    · by_cases h2 : i = p + 1
      · subst h2; simp [sstep]
      · simp [sstep, h1, h2]
  turn := fun g p b q c h => by
    funext i
    have e1 : q ≠ p := by omega
    have e2 : q + 1 ≠ p := by omega
    have e3 : q ≠ p + 1 := by omega
    have e4 : q + 1 ≠ p + 1 := by omega
    have e5 : p ≠ q := by omega
    have e6 : p ≠ q + 1 := by omega
    have e7 : p + 1 ≠ q := by omega
    by_cases h1 : i = p
    · subst h1; simp [sstep, e1, e2, e3, e4, e5, e6, e7]
    · by_cases h2 : i = p + 1
      · subst h2; simp [sstep, e1, e2, e3, e4, e5, e6, e7]
      · by_cases h3 : i = q
        · subst h3; simp [sstep, e1, e2, e3, e4, e5, e6, e7]
        · by_cases h4 : i = q + 1
          · subst h4; simp [sstep, e1, e2, e3, e4, e5, e6, e7]
          · simp [sstep, h1, h2, h3, h4]
  three := fun g p x y z h => by
    funext i
    have e0 : p ≠ p + 1 := by omega
    have e1 : p + 1 ≠ p := by omega
    have e2 : p + 1 + 1 ≠ p := by omega
    have e3 : p + 1 + 1 ≠ p + 1 := by omega
    have e4 : p ≠ p + 1 + 1 := by omega
    by_cases h1 : i = p
    · subst h1; simp [sstep, e0, e1, e2, e3, e4]
    · by_cases h2 : i = p + 1
      · subst h2; simp [sstep, e0, e1, e2, e3, e4]
      · by_cases h3 : i = p + 1 + 1
        · subst h3; simp [sstep, e0, e1, e2, e3, e4]
        · simp [sstep, h1, h2, h3]
def run {α : Type} (T : (Nat → α) → Lay → (Nat → α)) (g : Nat → α) (ls : List Lay) : Nat → α := ls.foldl T g
theorem run_append {α : Type} {T : (Nat → α) → Lay → (Nat → α)} (g : Nat → α) (a b : List Lay) : run T g (a ++ b) = run T (run T g a) b := List.foldl_append

/-! ### slides -/
inductive Sl where
  | turn (at_ : Nat) (left : Bool)
  | pair (at_ : Nat)
  | three (at_ : Nat)
  | twine (at_ place : Nat) (over : Bool)
/-- n: how many wires -/
def slid (n : Nat) (ls : List Lay) : Sl → Option (List Lay)
  | .turn i left => match ls.drop i with
    | f :: s :: r => if (if left then s.1 + 2 ≤ f.1 else f.1 + 2 ≤ s.1) then some (ls.take i ++ s :: f :: r) else none
    | _ => none
  | .pair i => match ls.drop i with
    | f :: s :: r => if f.1 = s.1 ∧ f.2 ≠ s.2 then some (ls.take i ++ r) else none
    | _ => none
  | .three i => match ls.drop i with
    | f :: s :: t :: r => if (f.1 = t.1 ∧ (f.1 = s.1 + 1 ∨ s.1 = f.1 + 1)) ∧ ¬ (f.2 = t.2 ∧ f.2 ≠ s.2) then some (ls.take i ++ (s.1, t.2) :: (f.1, s.2) :: (s.1, f.2) :: r) else none
    | _ => none
  | .twine i p o => if i ≤ ls.length ∧ p + 2 ≤ n then some (ls.take i ++ (p, o) :: (p, !o) :: ls.drop i) else none
def Valid (n : Nat) (ls : List Lay) : Prop := ∀ l ∈ ls, l.1 + 1 < n
theorem take_drop_of {ls r : List Lay} {i : Nat} (h : ls.drop i = r) : ls = ls.take i ++ r := by rw [← h, List.take_append_drop]
theorem slid_ok {n : Nat} {ls ls' : List Lay} {s : Sl} (h : slid n ls s = some ls') (v : Valid n ls) : Valid n ls' ∧ ∀ {α : Type} {T : (Nat → α) → Lay → (Nat → α)}, Acts T → ∀ g, run T g ls' = run T g ls := by
  cases s with
  | turn i left =>
    simp only [slid] at h
    split at h
    · rename_i f s r e
      by_cases hc : (if left = true then s.1 + 2 ≤ f.1 else f.1 + 2 ≤ s.1)
      · rw [if_pos hc] at h
        cases h
        have e2 := take_drop_of e
        refine ⟨fun l hl => v l ?_, fun {α T} A g => ?_⟩
        · rw [e2]
          simp only [List.mem_append, List.mem_cons] at hl ⊢
          rcases hl with a | a | a | a
          · exact .inl a
          · exact .inr (.inr (.inl a))
          · exact .inr (.inl a)
          · exact .inr (.inr (.inr a))
        · conv => rhs; rw [e2]
          rw [run_append, run_append]
          show run T (T (T _ s) f) r = run T (T (T _ f) s) r
          obtain ⟨fp, fb⟩ := f
          obtain ⟨sp, sb⟩ := s
          cases left with
          | true => rw [A.turn _ fp fb sp sb (by simpa using hc)]
          | false => rw [A.turn _ sp sb fp fb (by simpa using hc)]
      · rw [if_neg hc] at h
        cases h
    · cases h
  | pair i =>
    simp only [slid] at h
    split at h
    · rename_i f s r e
      split at h
      · rename_i hc
        cases h
        have e2 := take_drop_of e
        refine ⟨fun l hl => v l ?_, fun {α T} A g => ?_⟩
        · rw [e2]
          simp only [List.mem_append, List.mem_cons] at hl ⊢
          rcases hl with a | a
          · exact .inl a
          · exact .inr (.inr (.inr a))
        · conv => rhs; rw [e2]
          rw [run_append, run_append]
          show run T _ r = run T (T (T _ f) s) r
          obtain ⟨fp, fb⟩ := f
          obtain ⟨sp, sb⟩ := s
          obtain ⟨h1, h2⟩ := hc
          simp only at h1 h2
          subst h1
          have : sb = !fb := by cases fb <;> cases sb <;> first | rfl | exact absurd rfl h2
          subst this
          rw [A.pair]
      · cases h
    · cases h
  | three i =>
    simp only [slid] at h
    split at h
    · rename_i f s t r e
      split at h
      · rename_i hc
        cases h
        have e2 := take_drop_of e
        obtain ⟨⟨h1, h2⟩, h3⟩ := hc
        have vf : f.1 + 1 < n := v f (by rw [e2]; simp)
        have vs : s.1 + 1 < n := v s (by rw [e2]; simp)
        refine ⟨fun l hl => ?_, fun {α T} A g => ?_⟩
        · simp only [List.mem_append, List.mem_cons] at hl
          rcases hl with a | a | a | a | a
          · exact v l (by rw [e2]; simp [a])
          · rw [a]; exact vs
          · rw [a]; exact vf
          · rw [a]; exact vs
          · exact v l (by rw [e2]; simp [a])
        · conv => rhs; rw [e2]
          rw [run_append, run_append]
          show run T (T (T (T _ (s.1, t.2)) (f.1, s.2)) (s.1, f.2)) r = run T (T (T (T _ f) s) t) r
          obtain ⟨fp, fb⟩ := f
          obtain ⟨sp, sb⟩ := s
          obtain ⟨tp, tb⟩ := t
          simp only at h1 h2 h3 ⊢
          subst h1
          rcases h2 with h2 | h2
          · subst h2
            rw [A.three _ sp tb sb fb (fun ⟨q1, q2⟩ => h3 ⟨q1.symm, fun q => q2 (by rw [q1]; exact q.symm)⟩)]
          · subst h2
            rw [A.three _ fp fb sb tb (fun ⟨q1, q2⟩ => h3 ⟨q1, fun q => q2 q.symm⟩)]
      · cases h
    · cases h
  | twine i p o =>
    simp only [slid] at h
    split at h
    · rename_i hc
      cases h
      refine ⟨fun l hl => ?_, fun {α T} A g => ?_⟩
      · simp only [List.mem_append, List.mem_cons] at hl
        rcases hl with a | a | a | a
        · exact v l (List.mem_of_mem_take a)
        · rw [a]; show p + 1 < n; omega
        · rw [a]; show p + 1 < n; omega
        · exact v l (List.mem_of_mem_drop a)
      · conv => rhs; rw [← List.take_append_drop i ls]
        rw [run_append, run_append]
        show run T (T (T _ (p, o)) (p, !o)) _ = _
        rw [A.pair]
    · cases h
end BM
namespace BM

/-! ### the way back, rows of slides -/
def bak (ls : List Lay) : Sl → Sl
  | .turn i left => .turn i (!left)
  | .pair i => match ls[i]? with
    | some l => .twine i l.1 l.2
    | none => .pair i
  | s => s
theorem take_len {α : Type} {ls : List α} {i : Nat} {f : α} {r : List α} (h : ls.drop i = f :: r) : (ls.take i).length = i := by
  rw [List.length_take]
  have : i < ls.length := by
    apply Nat.lt_of_not_le
    intro q
    rw [List.drop_eq_nil_of_le q] at h
    cases h
  omega
theorem slid_back {n : Nat} {ls ls' : List Lay} {s : Sl} (h : slid n ls s = some ls') (v : Valid n ls) (nt : ∀ i p o, s ≠ .twine i p o) : slid n ls' (bak ls s) = some ls := by
  cases s with
  | turn i left =>
    simp only [slid] at h
    split at h
    · rename_i f s r e
      by_cases hc : (if left = true then s.1 + 2 ≤ f.1 else f.1 + 2 ≤ s.1)
      · rw [if_pos hc] at h
        cases h
        have e2 := take_drop_of e
        have hl := take_len e
        simp only [bak, slid]
        rw [List.drop_left' hl, List.take_left' hl]
        have hc' : (if (!left) = true then f.1 + 2 ≤ s.1 else s.1 + 2 ≤ f.1) := by
          cases left with
          | true => simpa using hc
          | false => simpa using hc
        simp only
        rw [if_pos hc', ← e2]
      · rw [if_neg hc] at h
        cases h
    · cases h
  | pair i =>
    simp only [slid] at h
    split at h
    · rename_i f s r e
      split at h
      · rename_i hc
        cases h
        have e2 := take_drop_of e
        have hl := take_len e
        have hf : ls[i]? = some f := by
          have : (ls.drop i)[0]? = some f := by rw [e]; rfl
          rwa [List.getElem?_drop] at this
        have vf : f.1 + 1 < n := v f (by rw [e2]; simp)
        simp only [bak, hf, slid]
        rw [if_pos ⟨by rw [List.length_append, hl]; omega, by omega⟩, List.drop_left' hl, List.take_left' hl]
        obtain ⟨fp, fb⟩ := f
        obtain ⟨sp, sb⟩ := s
        obtain ⟨h1, h2⟩ := hc
        simp only at h1 h2 ⊢
        subst h1
        have : sb = !fb := by cases fb <;> cases sb <;> first | rfl | exact absurd rfl h2
        subst this
        rw [← e2]
      · cases h
    · cases h
  | three i =>
    simp only [slid] at h
    split at h
    · rename_i f s t r e
      split at h
      · rename_i hc
        cases h
        have e2 := take_drop_of e
        have hl := take_len e
        obtain ⟨⟨h1, h2⟩, h3⟩ := hc
        simp only [bak, slid]
        rw [List.drop_left' hl, List.take_left' hl]
        simp only
        rw [if_pos ⟨⟨by trivial, by omega⟩, fun ⟨q1, q2⟩ => h3 ⟨q1.symm, fun q => q2 (by rw [q1]; exact q)⟩⟩]
        obtain ⟨fp, fb⟩ := f
        obtain ⟨sp, sb⟩ := s
        obtain ⟨tp, tb⟩ := t
        simp only at h1
        subst h1
        rw [← e2]
      · cases h
    · cases h
  | twine i p o => exact absurd rfl (nt i p o)
def walk (n : Nat) (ls : List Lay) (ss : List Sl) : Option (List Lay) := ss.foldlM (slid n) ls
theorem walk_nil (n : Nat) (ls : List Lay) : walk n ls [] = some ls := rfl
theorem walk_cons (n : Nat) (ls : List Lay) (s : Sl) (ss : List Sl) : walk n ls (s :: ss) = (slid n ls s).bind fun l => walk n l ss := by
  unfold walk
  rw [List.foldlM_cons]
  rfl
theorem walk_app {n : Nat} : ∀ {ls ls1 ls2 : List Lay} {a b : List Sl}, walk n ls a = some ls1 → walk n ls1 b = some ls2 → walk n ls (a ++ b) = some ls2
  | ls, _, _, [], b, h, g => by
    rw [walk_nil] at h
    cases h
    exact g
  | ls, _, _, s :: a, b, h, g => by
    rw [walk_cons] at h
    rw [List.cons_append, walk_cons]
    cases e : slid n ls s with
    | none => rw [e] at h; cases h
    | some l =>
      rw [e] at h
      exact walk_app (a := a) h g

/-! ### words -/
def stepw (b : Bool) (u v : Wd) : Wd × Wd := if b then (put [u, v, opp u], u) else (v, put [opp v, u, v])
def layw (row : List Wd) (l : Lay) : List Wd := (row.set l.1 (stepw l.2 (row.getD l.1 []) (row.getD (l.1 + 1) [])).1).set (l.1 + 1) (stepw l.2 (row.getD l.1 []) (row.getD (l.1 + 1) [])).2
def wordsF (row : List Wd) (ls : List Lay) : List Wd := ls.foldl layw row
def ids (n : Nat) : List Wd := (List.range n).map fun (i : Nat) => [(i : Int) + 1]
def words (n : Nat) (ls : List Lay) : List Wd := wordsF (ids n) ls
def gz (i : Nat) : G := cls [(i : Int) + 1]
structure Fits (n : Nat) (row : List Wd) (g : Nat → G) : Prop where
  len : row.length = n
  at_ : ∀ i, i < n → RW (row.getD i []) ∧ cls (row.getD i []) = g i
theorem getD_set {row : List Wd} {p : Nat} {w : Wd} (hp : p < row.length) (i : Nat) : (row.set p w).getD i [] = if i = p then w else row.getD i [] := by
  rw [List.getD_eq_getElem?_getD, List.getD_eq_getElem?_getD]
  by_cases h : i = p
  · subst h; rw [List.getElem?_set_self hp, if_pos rfl]; rfl
  · rw [List.getElem?_set_ne (Ne.symm h), if_neg h]
theorem layw_len (row : List Wd) (l : Lay) : (layw row l).length = row.length := by simp [layw]
theorem layw_at {row : List Wd} {l : Lay} (hp : l.1 + 1 < row.length) (i : Nat) : (layw row l).getD i [] = if i = l.1 + 1 then (stepw l.2 (row.getD l.1 []) (row.getD (l.1 + 1) [])).2 else if i = l.1 then (stepw l.2 (row.getD l.1 []) (row.getD (l.1 + 1) [])).1 else row.getD i [] := by
  unfold layw
  rw [getD_set (by rw [List.length_set]; exact hp), getD_set (by omega)]
theorem flat3 (a b c : Wd) : [a, b, c].flatten = a ++ (b ++ c) := by simp
theorem gstep_0 (g : Nat → G) (p : Nat) (o : Bool) : gstep g (p, o) p = if o then gm (g p) (gm (g (p + 1)) (gi (g p))) else g (p + 1) := by simp [gstep]
theorem gstep_1 (g : Nat → G) (p : Nat) (o : Bool) : gstep g (p, o) (p + 1) = if o then g p else gm (gi (g (p + 1))) (gm (g p) (g (p + 1))) := by simp [gstep]
theorem fits_step {n : Nat} {row : List Wd} {g : Nat → G} (h : Fits n row g) {l : Lay} (hl : l.1 + 1 < n) : Fits n (layw row l) (gstep g l) := by
  refine ⟨by rw [layw_len]; exact h.len, fun i hi => ?_⟩
  rw [layw_at (by rw [h.len]; exact hl)]
  obtain ⟨p, o⟩ := l
  simp only at hl ⊢
  obtain ⟨a1, a2⟩ := h.at_ p (by omega)
  obtain ⟨b1, b2⟩ := h.at_ (p + 1) hl
  by_cases e1 : i = p + 1
  · rw [if_pos e1, e1, gstep_1]
    cases o with
    | true => exact ⟨a1, a2⟩
    | false =>
      refine ⟨put_rw _, ?_⟩
      show cls (put [opp (row.getD (p + 1) []), row.getD p [], row.getD (p + 1) []]) = gm (gi (g (p + 1))) (gm (g p) (g (p + 1)))
      rw [cls_put, flat3, cls_app, cls_app, cls_opp, a2, b2]
  · rw [if_neg e1]
    by_cases e2 : i = p
    · rw [if_pos e2, e2, gstep_0]
      cases o with
      | true =>
        refine ⟨put_rw _, ?_⟩
        show cls (put [row.getD p [], row.getD (p + 1) [], opp (row.getD p [])]) = gm (g p) (gm (g (p + 1)) (gi (g p)))
        rw [cls_put, flat3, cls_app, cls_app, cls_opp, a2, b2]
      | false => exact ⟨b1, b2⟩
    · rw [if_neg e2]
      have q : gstep g (p, o) i = g i := by simp [gstep, e1, e2]
      rw [q]
      exact h.at_ i hi
theorem fits_run {n : Nat} : ∀ {ls : List Lay} {row : List Wd} {g : Nat → G}, Fits n row g → Valid n ls → Fits n (wordsF row ls) (run gstep g ls)
  | [], _, _, h, _ => h
  | l :: ls, _, _, h, v => fits_run (ls := ls) (fits_step h (v l List.mem_cons_self)) fun x hx => v x (List.mem_cons_of_mem _ hx)
theorem ids_len (n : Nat) : (ids n).length = n := by simp [ids]
theorem ids_at {n i : Nat} (h : i < n) : (ids n).getD i [] = [(i : Int) + 1] := by
  unfold ids
  rw [List.getD_eq_getElem?_getD, List.getElem?_map, List.getElem?_range h]
  rfl
theorem fits_ids (n : Nat) : Fits n (ids n) gz := ⟨ids_len n, fun i hi => by rw [ids_at hi]; exact ⟨trivial, rfl⟩⟩
theorem fits_words {n : Nat} {ls : List Lay} (v : Valid n ls) : Fits n (words n ls) (run gstep gz ls) := fits_run (fits_ids n) v
theorem fits_eq {n : Nat} {r s : List Wd} {g h : Nat → G} (a : Fits n r g) (b : Fits n s h) (e : ∀ i, i < n → g i = h i) : r = s := by
  refine List.ext_getElem (by rw [a.len, b.len]) fun i h1 h2 => ?_
  have hi : i < n := by rw [← a.len]; exact h1
  obtain ⟨a1, a2⟩ := a.at_ i hi
  obtain ⟨b1, b2⟩ := b.at_ i hi
  have := cls_eq a1 b1 (by rw [a2, b2, e i hi])
  rw [List.getD_eq_getElem?_getD, List.getD_eq_getElem?_getD, List.getElem?_eq_getElem h1, List.getElem?_eq_getElem h2] at this
  exact this
theorem words_eq {n : Nat} {a b : List Lay} (va : Valid n a) (vb : Valid n b) (e : run gstep gz a = run gstep gz b) : words n a = words n b := fits_eq (fits_words va) (fits_words vb) fun i _ => by rw [e]
theorem run_out {n : Nat} : ∀ {ls : List Lay} {g : Nat → G}, Valid n ls → ∀ i, n ≤ i → run gstep g ls i = g i
  | [], _, _, _, _ => rfl
  | l :: ls, g, v, i, hi => by
    show run gstep (gstep g l) ls i = g i
    rw [run_out (fun x hx => v x (List.mem_cons_of_mem _ hx)) i hi]
    have := v l List.mem_cons_self
    unfold gstep
    rw [if_neg (by omega), if_neg (by omega)]
theorem run_of_words {n : Nat} {a b : List Lay} (va : Valid n a) (vb : Valid n b) (e : words n a = words n b) : run gstep gz a = run gstep gz b := by
  funext i
  by_cases hi : i < n
  · rw [← ((fits_words va).at_ i hi).2, ← ((fits_words vb).at_ i hi).2, e]
  · rw [run_out va i (by omega), run_out vb i (by omega)]

/-! ### words put in for numbers -/
def subL (h : Nat → G) (x : Int) : G := if 0 < x then h (x.toNat - 1) else if x < 0 then gi (h ((-x).toNat - 1)) else g1
def subW (h : Nat → G) : Wd → G
  | [] => g1
  | x :: w => gm (subL h x) (subW h w)
theorem subW_app (h : Nat → G) : ∀ u v : Wd, subW h (u ++ v) = gm (subW h u) (subW h v)
  | [], v => (g1_m _).symm
  | x :: u, v => by
    show gm (subL h x) (subW h (u ++ v)) = gm (gm (subL h x) (subW h u)) (subW h v)
    rw [subW_app h u v, gm_assoc]
theorem subW_one (h : Nat → G) (x : Int) : subW h [x] = subL h x := gm_1 _
theorem subL_neg (h : Nat → G) (x : Int) : subL h (-x) = gi (subL h x) := by
  unfold subL
  by_cases h1 : 0 < x
  · rw [if_neg (by omega), if_pos (by omega), if_pos h1, Int.neg_neg]
  · by_cases h2 : x < 0
    · rw [if_pos (by omega), if_neg h1, if_pos h2, gi_gi]
    · rw [if_neg (by omega), if_neg (by omega), if_neg h1, if_neg h2]
      rfl
theorem subW_psh (h : Nat → G) (t : List Int) (x : Int) : subW h (psh t x).reverse = gm (subW h t.reverse) (subL h x) := by
  cases t with
  | nil => rw [show (psh [] x).reverse = [x] from rfl, subW_one]; exact (g1_m _).symm
  | cons y r =>
    by_cases e : y = -x
    · subst e
      have e1 : psh (-x :: r) x = r := by simp [psh]
      rw [e1, List.reverse_cons, subW_app, subW_one, subL_neg, gm_assoc, gi_gm, gm_1]
    · have e1 : psh (y :: r) x = x :: y :: r := by simp [psh, e]
      rw [e1, List.reverse_cons, subW_app, subW_one]
theorem subW_act (h : Nat → G) : ∀ (w : Wd) (t : List Int), subW h (act w t).reverse = gm (subW h t.reverse) (subW h w)
  | [], t => (gm_1 _).symm
  | x :: w, t => by
    show subW h (act w (psh t x)).reverse = _
    rw [subW_act h w, subW_psh, gm_assoc]
    rfl
theorem subW_eqv (h : Nat → G) {u v : Wd} (e : eqv u v) : subW h u = subW h v := by
  have a := subW_act h u []
  have b := subW_act h v []
  rw [e [] trivial] at a
  rw [a] at b
  have z : subW h ([] : List Int).reverse = g1 := rfl
  rw [z, g1_m, g1_m] at b
  exact b
def sub (h : Nat → G) (a : G) : G := Quotient.liftOn a (subW h) fun _ _ e => subW_eqv h e
theorem sub_cls (h : Nat → G) (w : Wd) : sub h (cls w) = subW h w := rfl
theorem sub_m (h : Nat → G) (a b : G) : sub h (gm a b) = gm (sub h a) (sub h b) := Quotient.inductionOn₂ a b fun u v => subW_app h u v
theorem subW_opp (h : Nat → G) : ∀ w : Wd, subW h (opp w) = gi (subW h w)
  | [] => rfl
  | x :: w => by
    have e : opp (x :: w) = opp w ++ [-x] := by simp [opp]
    rw [e, subW_app, subW_opp h w, subW_one, subL_neg]
    show _ = gi (gm (subL h x) (subW h w))
    rw [gi_m]
theorem sub_i (h : Nat → G) (a : G) : sub h (gi a) = gi (sub h a) := Quotient.inductionOn a fun u => subW_opp h u
theorem sub_gz (h : Nat → G) (i : Nat) : sub h (gz i) = h i := by
  show subW h [(i : Int) + 1] = h i
  rw [subW_one]
  unfold subL
  rw [if_pos (by omega)]
  congr 1
theorem sub_step (h g : Nat → G) (l : Lay) : (fun i => sub h (gstep g l i)) = gstep (fun i => sub h (g i)) l := by
  funext i
  unfold gstep
  cases l.2 <;> (by_cases e1 : i = l.1 <;> by_cases e2 : i = l.1 + 1 <;> simp [e1, e2, sub_m, sub_i])
theorem sub_run (h : Nat → G) : ∀ (ls : List Lay) (g : Nat → G), (fun i => sub h (run gstep g ls i)) = run gstep (fun i => sub h (g i)) ls
  | [], _ => rfl
  | l :: ls, g => by
    show (fun i => sub h (run gstep (gstep g l) ls i)) = run gstep (gstep (fun i => sub h (g i)) l) ls
    rw [sub_run h ls, sub_step]
theorem run_sub (h : Nat → G) (ls : List Lay) (i : Nat) : run gstep h ls i = sub h (run gstep gz ls i) := by
  have e := congrFun (sub_run h ls gz) i
  have e2 : (fun i => sub h (gz i)) = h := funext (sub_gz h)
  rw [e2] at e
  exact e.symm
/-- the numbers of words are the wires' -/
def LV (n : Nat) (w : Wd) : Prop := ∀ x ∈ w, x ≠ 0 ∧ x.natAbs ≤ n
theorem psh_mem {s : List Int} {x y : Int} (h : y ∈ psh s x) : y = x ∨ y ∈ s := by
  cases s with
  | nil => exact .inl (by simpa [psh] using h)
  | cons z r =>
    simp only [psh] at h
    split at h
    · exact .inr (List.mem_cons_of_mem _ h)
    · rcases List.mem_cons.mp h with h | h
      · exact .inl h
      · exact .inr h
theorem act_mem : ∀ {w : Wd} {s : List Int} {y : Int}, y ∈ act w s → y ∈ w ∨ y ∈ s
  | [], _, _, h => .inr h
  | x :: w, s, y, h => by
    rcases act_mem (w := w) (s := psh s x) h with h | h
    · exact .inl (List.mem_cons_of_mem _ h)
    · rcases psh_mem h with h | h
      · exact .inl (by rw [h]; exact List.mem_cons_self)
      · exact .inr h
theorem put_mem {ws : List Wd} {y : Int} (h : y ∈ put ws) : ∃ w ∈ ws, y ∈ w := by
  unfold put at h
  rw [List.mem_reverse] at h
  rcases act_mem h with h | h
  · obtain ⟨w, hw, hy⟩ := List.mem_flatten.mp h
    exact ⟨w, hw, hy⟩
  · cases h
theorem lv_put {n : Nat} {ws : List Wd} (h : ∀ w ∈ ws, LV n w) : LV n (put ws) := fun x hx => by
  obtain ⟨w, hw, hy⟩ := put_mem hx
  exact h w hw x hy
theorem lv_opp {n : Nat} {w : Wd} (h : LV n w) : LV n (opp w) := fun x hx => by
  unfold opp at hx
  rw [List.mem_map] at hx
  obtain ⟨y, hy, rfl⟩ := hx
  obtain ⟨a, b⟩ := h y (List.mem_reverse.mp hy)
  exact ⟨by omega, by omega⟩
theorem lv_layw {n : Nat} {row : List Wd} {l : Lay} (hl : l.1 + 1 < row.length) (h : ∀ i, LV n (row.getD i [])) (i : Nat) : LV n ((layw row l).getD i []) := by
  rw [layw_at hl]
  obtain ⟨p, o⟩ := l
  have k3 : ∀ a b c : Wd, LV n a → LV n b → LV n c → LV n (put [a, b, c]) := fun a b c ha hb hc => lv_put fun w hw => by
    simp only [List.mem_cons, List.not_mem_nil, or_false] at hw
    rcases hw with q | q | q
    · rw [q]; exact ha
    · rw [q]; exact hb
    · rw [q]; exact hc
  by_cases e1 : i = p + 1
  · rw [if_pos e1]
    cases o with
    | true => exact h _
    | false => exact k3 _ _ _ (lv_opp (h _)) (h _) (h _)
  · rw [if_neg e1]
    by_cases e2 : i = p
    · rw [if_pos e2]
      cases o with
      | true => exact k3 _ _ _ (h _) (h _) (lv_opp (h _))
      | false => exact h _
    · rw [if_neg e2]
      exact h i
theorem lv_run {n : Nat} : ∀ {ls : List Lay} {row : List Wd}, row.length = n → Valid n ls → (∀ i, LV n (row.getD i [])) → ∀ i, LV n ((wordsF row ls).getD i [])
  | [], _, _, _, h => h
  | l :: ls, row, hl, v, h => lv_run (ls := ls) (by rw [layw_len]; exact hl) (fun x hx => v x (List.mem_cons_of_mem _ hx)) fun i => lv_layw (by rw [hl]; exact v l List.mem_cons_self) h i
theorem lv_words {n : Nat} {ls : List Lay} (v : Valid n ls) (i : Nat) : LV n ((words n ls).getD i []) := lv_run (ids_len n) v (fun i x hx => by
  by_cases hi : i < n
  · rw [ids_at hi] at hx
    simp only [List.mem_singleton] at hx
    subst hx
    exact ⟨by omega, by omega⟩
  · rw [List.getD_eq_getElem?_getD, List.getElem?_eq_none (by rw [ids_len]; omega)] at hx
    cases hx) i
def partOf (ws : List Wd) (x : Int) : Wd := if 0 < x then ws.getD (x.toNat - 1) [] else opp (ws.getD ((-x).toNat - 1) [])
def wordsIn (ws os : List Wd) : List Wd := os.map fun w => put (w.map (partOf ws))
theorem cls_parts {n : Nat} {ws : List Wd} {h : Nat → G} (f : Fits n ws h) : ∀ {w : Wd}, LV n w → cls (w.map (partOf ws)).flatten = subW h w
  | [], _ => rfl
  | x :: w, l => by
    rw [List.map_cons, List.flatten_cons, cls_app, cls_parts f fun y hy => l y (List.mem_cons_of_mem _ hy)]
    show _ = gm (subL h x) (subW h w)
    congr 1
    obtain ⟨a, b⟩ := l x List.mem_cons_self
    unfold partOf subL
    by_cases h1 : 0 < x
    · rw [if_pos h1, if_pos h1]
      exact (f.at_ _ (by omega)).2
    · rw [if_neg h1, if_neg h1, if_pos (by omega), cls_opp, (f.at_ _ (by omega)).2]
theorem words_in {n : Nat} {a b : List Lay} (va : Valid n a) (vb : Valid n b) : wordsIn (words n a) (words n b) = words n (a ++ b) := by
  have vab : Valid n (a ++ b) := fun l hl => (List.mem_append.mp hl).elim (va l) (vb l)
  refine fits_eq (g := run gstep gz (a ++ b)) ⟨by unfold wordsIn; rw [List.length_map]; exact (fits_words vb).len, fun i hi => ?_⟩ (fits_words vab) fun _ _ => rfl
  have e : (wordsIn (words n a) (words n b)).getD i [] = put (((words n b).getD i []).map (partOf (words n a))) := by
    unfold wordsIn
    rw [List.getD_eq_getElem?_getD, List.getElem?_map, List.getD_eq_getElem?_getD, List.getElem?_eq_getElem (by rw [(fits_words vb).len]; exact hi)]
    rfl
  rw [e]
  refine ⟨put_rw _, ?_⟩
  rw [cls_put, cls_parts (fits_words va) (lv_words vb i), ← sub_cls, ((fits_words vb).at_ i hi).2, ← run_sub, run_append]

/-! ### undone, turned over -/
def undone (ls : List Lay) : List Lay := ls.reverse.map fun l => (l.1, !l.2)
theorem undone_cons (l : Lay) (ls : List Lay) : undone (l :: ls) = undone ls ++ [(l.1, !l.2)] := by simp [undone]
theorem undone_undone (ls : List Lay) : undone (undone ls) = ls := by
  unfold undone
  rw [← List.map_reverse, List.reverse_reverse, List.map_map]
  have : ((fun l : Lay => (l.1, !l.2)) ∘ fun l : Lay => (l.1, !l.2)) = id := by funext l; simp
  rw [this, List.map_id]
theorem run_undone {α : Type} {T : (Nat → α) → Lay → (Nat → α)} (A : Acts T) : ∀ (ls : List Lay) (g : Nat → α), run T g (ls ++ undone ls) = g
  | [], _ => rfl
  | l :: ls, g => by
    rw [undone_cons, ← List.append_assoc, run_append]
    show T (run T (T g l) (ls ++ undone ls)) (l.1, !l.2) = g
    rw [run_undone A ls]
    exact A.pair g l.1 l.2
theorem valid_undone {n : Nat} {ls : List Lay} (v : Valid n ls) : Valid n (undone ls) := fun l hl => by
  unfold undone at hl
  obtain ⟨m, hm, rfl⟩ := List.mem_map.mp hl
  exact v m (List.mem_reverse.mp hm)
theorem valid_app {n : Nat} {a b : List Lay} (va : Valid n a) (vb : Valid n b) : Valid n (a ++ b) := fun l hl => (List.mem_append.mp hl).elim (va l) (vb l)
theorem words_undone {n : Nat} {ls : List Lay} (v : Valid n ls) : words n (ls ++ undone ls) = ids n :=
  fits_eq (fits_words (valid_app v (valid_undone v))) (fits_ids n) fun i _ => by rw [run_undone gstep_acts]
theorem gm_left_cancel {a b c : G} (h : gm a b = gm a c) : b = c := by
  have := congrArg (gm (gi a)) h
  rwa [gi_gm_l, gi_gm_l] at this
theorem gz_apart (p : Nat) : gm (gz p) (gz (p + 1)) ≠ gm (gz (p + 1)) (gz p) := fun h => by
  have h1 : cls [(p : Int) + 1, ((p + 1 : Nat) : Int) + 1] = cls [((p + 1 : Nat) : Int) + 1, (p : Int) + 1] := h
  have h2 := cls_eq (by
    show _ ≠ _ ∧ True
    exact ⟨by push_cast; omega, trivial⟩) (by
    show _ ≠ _ ∧ True
    exact ⟨by push_cast; omega, trivial⟩) h1
  injection h2 with h3 _
  push_cast at h3
  omega
theorem turned_ne {n : Nat} {a b : List Lay} {p : Nat} {o : Bool} (v : Valid n (a ++ (p, o) :: b)) : words n (a ++ (p, o) :: b) ≠ words n (a ++ (p, !o) :: b) := fun h => by
  have v2 : Valid n (a ++ (p, !o) :: b) := fun l hl => by
    simp only [List.mem_append, List.mem_cons] at hl
    rcases hl with q | q | q
    · exact v l (by simp [q])
    · rw [q]; exact v (p, o) (by simp)
    · exact v l (by simp [q])
  have e := run_of_words v v2 h
  rw [run_append, run_append] at e
  have e2 : run gstep (gstep (run gstep gz a) (p, o)) b = run gstep (gstep (run gstep gz a) (p, !o)) b := e
  have e3 := congrArg (fun g => run gstep g (undone b)) e2
  have e4 : ∀ g : Nat → G, run gstep (run gstep g b) (undone b) = g := fun g => by rw [← run_append]; exact run_undone gstep_acts b g
  have e5 : gstep (run gstep gz a) (p, o) = gstep (run gstep gz a) (p, !o) := by
    have := e3
    simp only [e4] at this
    exact this
  -- the two wires' words commute
  have e6 : gm (run gstep gz a p) (run gstep gz a (p + 1)) = gm (run gstep gz a (p + 1)) (run gstep gz a p) := by
    cases o with
    | true =>
      have q := congrFun e5 p
      simp [gstep] at q
      have q2 := congrArg (fun x => gm x (run gstep gz a p)) q
      simp only [gm_assoc, gi_gm, gm_1] at q2
      exact q2
    | false =>
      have q := congrFun e5 p
      simp [gstep] at q
      have q2 := congrArg (fun x => gm x (run gstep gz a p)) q
      simp only [gm_assoc, gi_gm, gm_1] at q2
      exact q2.symm
  have e7 := congrArg (sub (run gstep gz (undone a))) e6
  rw [sub_m, sub_m, ← run_sub, ← run_sub, ← run_append] at e7
  have e8 : run gstep gz (undone a ++ a) = gz := by
    have := run_undone gstep_acts (undone a) gz
    rwa [undone_undone] at this
  rw [e8] at e7
  exact gz_apart p e7
end BM
namespace BM
/-! ### sorts below -/
section
variable {β : Type}
def sbel (row : List β) (l : Lay) : List β := row.take l.1 ++ ((row.drop l.1).take 2).reverse ++ row.drop (l.1 + 2)
def bel (row : List β) (ls : List Lay) : List β := ls.foldl sbel row
theorem two_at {row : List β} {p : Nat} (h : p + 1 < row.length) : ∃ x y, row[p]? = some x ∧ row[p + 1]? = some y ∧ row = row.take p ++ x :: y :: row.drop (p + 2) := by
  refine ⟨row[p]'(by omega), row[p + 1]'h, List.getElem?_eq_getElem _, List.getElem?_eq_getElem _, ?_⟩
  conv => lhs; rw [← List.take_append_drop p row]
  rw [List.drop_eq_getElem_cons (by omega : p < row.length), List.drop_eq_getElem_cons h]
theorem sbel_eq {row : List β} {l : Lay} {x y : β} (h : l.1 + 1 < row.length) (hx : row[l.1]? = some x) (hy : row[l.1 + 1]? = some y) : sbel row l = row.take l.1 ++ [y, x] ++ row.drop (l.1 + 2) := by
  unfold sbel
  have e : (row.drop l.1).take 2 = [x, y] := by
    rw [List.drop_eq_getElem_cons (by omega : l.1 < row.length), List.drop_eq_getElem_cons h]
    obtain ⟨_, e1⟩ := List.getElem?_eq_some_iff.mp hx
    obtain ⟨_, e2⟩ := List.getElem?_eq_some_iff.mp hy
    rw [e1, e2]
    rfl
  rw [e]
  rfl
theorem sbel_len {row : List β} {l : Lay} (h : l.1 + 1 < row.length) : (sbel row l).length = row.length := by
  obtain ⟨x, y, hx, hy, _⟩ := two_at h
  rw [sbel_eq h hx hy]
  simp only [List.length_append, List.length_take, List.length_drop, List.length_cons, List.length_nil]
  omega
theorem sbel_at {row : List β} {l : Lay} (h : l.1 + 1 < row.length) (i : Nat) : (sbel row l)[i]? = sstep (fun i => row[i]?) l i := by
  obtain ⟨x, y, hx, hy, _⟩ := two_at h
  rw [sbel_eq h hx hy]
  have hl : (row.take l.1).length = l.1 := by rw [List.length_take]; omega
  unfold sstep
  by_cases e1 : i = l.1
  · rw [if_pos e1]
    show _ = row[l.1 + 1]?
    rw [hy, e1, List.append_assoc, List.getElem?_append_right (by omega), hl, Nat.sub_self]
    rfl
  · rw [if_neg e1]
    by_cases e2 : i = l.1 + 1
    · rw [if_pos e2]
      show _ = row[l.1]?
      rw [hx, e2, List.append_assoc, List.getElem?_append_right (by omega), hl, Nat.add_sub_cancel_left]
      rfl
    · rw [if_neg e2, List.append_assoc]
      by_cases e3 : i < l.1
      · rw [List.getElem?_append_left (by omega), List.getElem?_take_of_lt e3]
      · rw [List.getElem?_append_right (by omega), hl, List.getElem?_append_right (by simp; omega), List.getElem?_drop]
        congr 1
        simp only [List.length_cons, List.length_nil]
        omega
theorem bel_len {n : Nat} : ∀ {ls : List Lay} {row : List β}, row.length = n → Valid n ls → (bel row ls).length = n
  | [], _, h, _ => h
  | l :: ls, row, h, v => bel_len (ls := ls) (by rw [sbel_len (by rw [h]; exact v l List.mem_cons_self)]; exact h) fun x hx => v x (List.mem_cons_of_mem _ hx)
theorem bel_at {n : Nat} : ∀ {ls : List Lay} {row : List β}, row.length = n → Valid n ls → ∀ i, (bel row ls)[i]? = run sstep (fun i => row[i]?) ls i
  | [], _, _, _, _ => rfl
  | l :: ls, row, h, v, i => by
    have hl : l.1 + 1 < row.length := by rw [h]; exact v l List.mem_cons_self
    show (bel (sbel row l) ls)[i]? = run sstep (sstep (fun i => row[i]?) l) ls i
    rw [bel_at (ls := ls) (by rw [sbel_len hl]; exact h) (fun x hx => v x (List.mem_cons_of_mem _ hx)) i]
    congr 1
    funext j
    exact sbel_at hl j
theorem bel_eq {n : Nat} {a b : List Lay} {row : List β} (h : row.length = n) (va : Valid n a) (vb : Valid n b) (e : ∀ g : Nat → Option β, run sstep g a = run sstep g b) : bel row a = bel row b :=
  List.ext_getElem? fun i => by rw [bel_at h va, bel_at h vb, e]
theorem bel_undone {n : Nat} {ls : List Lay} {row : List β} (h : row.length = n) (v : Valid n ls) : bel row (ls ++ undone ls) = row :=
  List.ext_getElem? fun i => by rw [bel_at h (valid_app v (valid_undone v)), run_undone sstep_acts]
end

/-! ### how long words may get -/
def pl : Nat → Nat
  | 0 => 1
  | 1 => 1
  | n + 2 => 2 * pl (n + 1) + pl n
theorem pl_le : ∀ n, pl n ≤ pl (n + 1)
  | 0 => Nat.le_refl _
  | n + 1 => by
    show pl (n + 1) ≤ 2 * pl (n + 1) + pl n
    omega
theorem pl_mono {m n : Nat} (h : m ≤ n) : pl m ≤ pl n := by
  induction h with
  | refl => exact Nat.le_refl _
  | step _ ih => exact Nat.le_trans ih (pl_le _)
theorem psh_len (s : List Int) (x : Int) : (psh s x).length ≤ s.length + 1 := by
  cases s with
  | nil => simp [psh]
  | cons y r =>
    simp only [psh]
    split
    · simp only [List.length_cons]; omega
    · simp only [List.length_cons]; omega
theorem act_len : ∀ (w : Wd) (s : List Int), (act w s).length ≤ s.length + w.length
  | [], s => Nat.le_refl _
  | x :: w, s => by
    have h1 := act_len w (psh s x)
    have h2 := psh_len s x
    show (act w (psh s x)).length ≤ _
    simp only [List.length_cons]
    omega
theorem put_len (ws : List Wd) : (put ws).length ≤ ws.flatten.length := by
  unfold put
  rw [List.length_reverse]
  have := act_len ws.flatten []
  simpa using this
theorem opp_len (w : Wd) : (opp w).length = w.length := by simp [opp]
/-- one wire's word is at most pl (k + 1) long, the others pl k -/
def LB (k : Nat) (row : List Wd) : Prop := ∃ j, ∀ i, (row.getD i []).length ≤ if i = j then pl (k + 1) else pl k
theorem LB.le {k : Nat} {row : List Wd} (h : LB k row) (i : Nat) : (row.getD i []).length ≤ pl (k + 1) := by
  obtain ⟨j, h⟩ := h
  have := h i
  have := pl_le k
  split at * <;> omega
theorem lb_ids (n : Nat) : LB 0 (ids n) := ⟨0, fun i => by
  have : ((ids n).getD i []).length ≤ 1 := by
    by_cases h : i < n
    · rw [ids_at h]; exact Nat.le_refl _
    · rw [List.getD_eq_getElem?_getD, List.getElem?_eq_none (by rw [ids_len]; omega)]; exact Nat.zero_le _
  show _ ≤ if i = 0 then 1 else 1
  split <;> exact this⟩
theorem two_len {k : Nat} {row : List Wd} (h : LB k row) {p q : Nat} (hpq : p ≠ q) : (row.getD p []).length + (row.getD q []).length + (row.getD p []).length ≤ pl (k + 2) ∧ (row.getD q []).length + (row.getD p []).length + (row.getD q []).length ≤ pl (k + 2) := by
  have e : pl (k + 2) = 2 * pl (k + 1) + pl k := rfl
  have l := pl_le k
  obtain ⟨j, h⟩ := h
  have hp := h p
  have hq := h q
  rw [e]
  by_cases h1 : p = j
  · rw [if_pos h1] at hp
    rw [if_neg (by omega)] at hq
    omega
  · rw [if_neg h1] at hp
    by_cases h2 : q = j
    · rw [if_pos h2] at hq
      omega
    · rw [if_neg h2] at hq
      omega
theorem lb_layw {k : Nat} {row : List Wd} {l : Lay} (hl : l.1 + 1 < row.length) (h : LB k row) : LB (k + 1) (layw row l) := by
  obtain ⟨p, o⟩ := l
  obtain ⟨t1, t2⟩ := two_len h (show p ≠ p + 1 by omega)
  have le := h.le
  have put3 : ∀ a b c : Wd, (put [a, b, c]).length ≤ a.length + b.length + c.length := fun a b c => by
    have := put_len [a, b, c]
    simp only [List.flatten_cons, List.flatten_nil, List.length_append, List.length_nil] at this
    omega
  refine ⟨if o then p else p + 1, fun i => ?_⟩
  rw [layw_at hl]
  show (if i = p + 1 then (stepw o (row.getD p []) (row.getD (p + 1) [])).2 else if i = p then (stepw o (row.getD p []) (row.getD (p + 1) [])).1 else row.getD i []).length ≤ _
  cases o with
  | true =>
    simp only [stepw, if_true]
    by_cases e1 : i = p + 1
    · rw [if_pos e1, if_neg (by omega)]; exact le p
    · rw [if_neg e1]
      by_cases e2 : i = p
      · rw [if_pos e2, if_pos e2]
        have := put3 (row.getD p []) (row.getD (p + 1) []) (opp (row.getD p []))
        rw [opp_len] at this
        show _ ≤ pl (k + 2)
        omega
      · rw [if_neg e2, if_neg e2]; exact le i
  | false =>
    simp only [stepw, Bool.false_eq_true, if_false]
    by_cases e1 : i = p + 1
    · rw [if_pos e1, if_pos e1]
      have := put3 (opp (row.getD (p + 1) [])) (row.getD p []) (row.getD (p + 1) [])
      rw [opp_len] at this
      show _ ≤ pl (k + 2)
      omega
    · rw [if_neg e1, if_neg e1]
      by_cases e2 : i = p
      · rw [if_pos e2]; exact le (p + 1)
      · rw [if_neg e2]; exact le i
theorem lb_run {n : Nat} : ∀ {ls : List Lay} {row : List Wd} {k : Nat}, row.length = n → Valid n ls → LB k row → LB (k + ls.length) (wordsF row ls)
  | [], _, _, _, _, h => h
  | l :: ls, row, k, hl, v, h => by
    have := lb_run (ls := ls) (k := k + 1) (row := layw row l) (by rw [layw_len]; exact hl) (fun x hx => v x (List.mem_cons_of_mem _ hx)) (lb_layw (by rw [hl]; exact v l List.mem_cons_self) h)
    rw [show k + (l :: ls).length = k + 1 + ls.length by simp only [List.length_cons]; omega]
    exact this
theorem words_len {n : Nat} {ls : List Lay} (v : Valid n ls) (i : Nat) : ((words n ls).getD i []).length ≤ pl (ls.length + 1) := by
  have := (lb_run (ids_len n) v (lb_ids n)).le i
  rwa [Nat.zero_add] at this
end BM
namespace Brd
open PySem PySem.Spec PyProof.Rows L2
/-! ### the text by places -/
def top (i : Nat) : Stmt := PySem.Challenge.pw_slidewires_k64_whole_braids_done_and_und.main.body.getD i (.Pass ⟨0, 0, 0, 0⟩)
def dD (x : Str) (i : Nat) : He.DefD := ⟨(x, none), x, x, defArgs (top i), defBody (top i), defScope (top i), [], []⟩
def fn : List He.DefD := [dD "opposite" 1, dD "put_together" 2, dD "crossed_words" 3, dD "words_of" 4, dD "feet_taken" 12, dD "given_for" 13, dD "wires_behind" 14, dD "wires_at" 15, dD "below_of" 16, dD "is_number" 21, dD "layers_turned" 22, dD "layers_paired" 23, dD "layers_threed" 24, dD "layers_slid" 25, dD "layers_twined" 26, dD "braid_slid" 27, dD "braid_back" 28, dD "braid_walks" 29, dD "slides_at" 30, dD "braids_near" 31, dD "braid_paper" 32, dD "braids_compared" 33, dD "_law_cell_at" 35, dD "_law_deck" 36, dD "_law_draw" 37, dD "_law_kit" 39, dD "_law_words_in" 40, dD "_law_deck_at" 41, dD "_law_times" 42, dD "_law_back" 43, dD "_law_is_place" 44, dD "_law_swapped" 45, dD "_law_threed" 46, dD "_law_layers_due" 47, dD "_law_braid" 48, dD "_law_any_slide" 49, dD "_law_undone" 50, dD "_law_sorts_below" 51, dD "_law_alike" 52, dD "_law_slid_copy" 53, dD "_law_right" 54, dD "law" 55]
/-- what the top has left -/
structure Txt (w : World) (K : PySem.W.Frag) (mg : Str → Option Value) : Prop where
  d : ∀ (i : Nat) (d : He.DefD), fn[i]? = some d → ∃ fd, FunD K d.name d.qual d.params d.body d.scope (d.dvs K) (d.kws K) (He.fAd K d.at_) fd
  g : ∀ (i : Nat) (d : He.DefD), fn[i]? = some d → mg d.at_.1 = some (.ref (He.fAd K d.at_))
  z_tuple : mg "tuple" = none
  z_reversed : mg "reversed" = none
  z_len : mg "len" = none
  z_range : mg "range" = none
  z_isinstance : mg "isinstance" = none
  z_int : mg "int" = none
  z_bool : mg "bool" = none
  z_str : mg "str" = none
  z_abs : mg "abs" = none
  z_max : mg "max" = none
  z_list : mg "list" = none
  nx : Nx K mg (He.ga K "NoSlide")
  steps : mg "STEPS" = some (.ref (He.ga K "STEPS"))
  stepsT : ∀ H, SqT K H (He.ga K "STEPS") [.str "over", .str "under"]
  stepsY : ∀ H, tyV K "tuple" (.ref (He.ga K "STEPS")) H
  sides : mg "SIDES" = some (.ref (He.ga K "SIDES"))
  sidesD : ∃ es n, KDict K w (He.ga K "SIDES") es n
  sidesL : ∃ u, PySem.W.nsIn K (He.ga K "SIDES") "left" = some (some u) ∧ RelV (.str "right") u
  sidesR : ∃ u, PySem.W.nsIn K (He.ga K "SIDES") "right" = some (some u) ∧ RelV (.str "left") u
  most : ∃ t, mg "MOST_SLIDES" = some (.int 2 t)
/-! ### the data's forms -/
open BM
def stS (b : Bool) : Str := if b then "over" else "under"
def sdS (b : Bool) : Str := if b then "left" else "right"
def kS (b : Bool) : NestedKey := .tup [.text (stS b)]
def kL (l : Lay) : NestedKey := .tup [.num l.1, kS l.2]
def kLs (ls : List Lay) : NestedKey := .tup (ls.map kL)
def kSs (ss : List Str) : NestedKey := .tup (ss.map .text)
def kP (ab : List Str) (ls : List Lay) : NestedKey := .tup [kSs ab, kLs ls]
def kW (w : Wd) : NestedKey := .tup (w.map .num)
def kWs (ws : List Wd) : NestedKey := .tup (ws.map kW)
def kK (ss : List Str) : NestedKey := .tup [.text "braid", kSs ss, .tup []]
def kSl : Sl → NestedKey
  | .turn i left => .tup [.text "turn", .num i, .text (sdS left)]
  | .pair i => .tup [.text "pair", .num i]
  | .three i => .tup [.text "three", .num i]
  | .twine i p o => .tup [.text "twine", .num i, .num p, .text (stS o)]
def kPp (ss : List Sl) : NestedKey := .tup (ss.map kSl)
theorem line : sizeLine = 16777216 := sizeLine_eq
theorem hu64 {k : Nat} {A : Around} (hr : Room k A) : A.units + 64 < cLine := by have := hr.un; omega
end Brd
set_option maxHeartbeats 1000000
namespace Brd
open PySem PySem.Spec PyProof.Rows L2 BM
section
variable {P : Program} {w : World} {K : PySem.W.Frag} {mg : Str → Option Value} {base : Heap}
/-! ### feet_taken -/
theorem sc_feet_taken : FnScope ["kit", "step"] ["kit", "step"] (defScope (top 12)) := ⟨rfl, rfl, rfl, by decide +kernel, rfl, by decide +kernel, by decide +kernel⟩
def G_feet_taken : List Ob → Ob → Prop := fun os o => ∃ kit b, os = [.d kit, .d (kS b)] ∧ o = .num 2
theorem st_over (b : Bool) (x : Str) (h1 : ("over" : Str) ≠ x) (h2 : ("under" : Str) ≠ x) : decide (stS b = x) = false := by
  cases b
  · exact decide_eq_false h2
  · exact decide_eq_false h1
theorem kn_feet_taken (T : Txt w K mg) : Kn CX0 P w K mg base "feet_taken" ["kit", "step"] 1 (spG w K (RD G_feet_taken)) := by
  refine kn_mk (T.d 4 _ rfl) (T.g 4 _ rfl) sc_feet_taken (fun fd F => F.bindsN fun _ _ _ _ _ _ us hl => match us, hl with | [_, _], _ => rfl) ?_ ?_
  · rintro _ _ _ ⟨_, _, ⟨_, _, rfl, _⟩, _⟩; rfl
  · rintro cdv A outer s H E _ _ _ hr ⟨rfl, _, ⟨kit, b, rfl, rfl⟩, rfl⟩
    refine so_ifF ((eb_eqS (ed_ix (ed_var 1) ed_int rfl) ed_str).cast (st_over b _ (by decide) (by decide))) ?_
    refine so_ret (ED.ex (ed_mul ed_int (ed_intB (ed_neS (ed_ix (ed_var 1) ed_int rfl) ed_str) T.z_int) (.inl (by decide))) ⟨?_, rfl⟩)
    rw [st_over b _ (by decide) (by decide)]
    rfl
/-! ### opposite -/
theorem sc_opposite : FnScope ["word", "number"] ["word"] (defScope (top 1)) := ⟨rfl, rfl, rfl, by decide +kernel, rfl, by decide +kernel, by decide +kernel⟩
def G_opposite : List Ob → Ob → Prop := fun os o => ∃ u : Wd, u.length ≤ sizeLine ∧ os = [.d (kW u)] ∧ o = .d (kW (opp u))
theorem map_range {α : Type} (f : Nat → α) (l : List α) (h : ∀ i, i < l.length → l[i]? = some (f i)) : (List.range l.length).map f = l := by
  refine List.ext_getElem? fun i => ?_
  by_cases hi : i < l.length
  · rw [List.getElem?_map, List.getElem?_range hi, h i hi]; rfl
  · rw [List.getElem?_eq_none (by simpa using hi), List.getElem?_eq_none (by omega)]
theorem kn_opposite (T : Txt w K mg) : Kn CX0 P w K mg base "opposite" ["word"] 1 (spG w K (RD G_opposite)) := by
  refine kn_mk (T.d 0 _ rfl) (T.g 0 _ rfl) sc_opposite (fun fd F => F.bindsN fun _ _ _ _ _ _ us hl => match us, hl with | [_], _ => rfl) ?_ ?_
  · rintro _ _ _ ⟨_, _, ⟨_, _, rfl, _⟩, _⟩; rfl
  · rintro cdv A outer s H E _ _ _ hr ⟨rfl, _, ⟨u, hu, rfl, rfl⟩, rfl⟩
    have key : (List.range (u.map NestedKey.num).length).map (fun i => NestedKey.num (-(u.reverse.getD i 0))) = (opp u).map .num := by
      have := map_range (fun i => NestedKey.num (-(u.reverse.getD i 0))) ((opp u).map .num) (fun i hi => by
        rw [List.length_map, opp_len] at hi
        rw [List.getElem?_map]
        unfold opp
        rw [List.getElem?_map, List.getD_eq_getElem?_getD, List.getElem?_eq_getElem (by rw [List.length_reverse]; exact hi)]
        rfl)
      rw [List.length_map, opp_len] at this
      rw [List.length_map]
      exact this
    refine so_ret (ED.ex (ed_tupleN (EX.mono (ed_lc1 1 (fun i => .num (-(u.reverse.getD i 0))) rfl sc_opposite.nd (blkOk_by (N := ["word", "number"]) (sc := defScope (top 1)) (by decide +kernel)) (by rw [List.length_map]; exact hu) (fun _ _ _ _ _ => pg_name (i := 1) sc_opposite.nd rfl (Or.inl rfl)) (ir_rev (ks := u.map .num) (ed_var 0) T.z_reversed) (fun i M hi s H Cc cl fp => ?_)) fun o M ⟨l, e1, e2⟩ => ⟨l, e1, by rw [e2, key]⟩) T.z_tuple) ⟨rfl, rfl⟩)
    refine ed_neg ((ed_var 1).cast ?_)
    rw [← List.map_reverse, List.getD_eq_getElem?_getD, List.getD_eq_getElem?_getD, List.getElem?_map, List.getElem?_eq_getElem (by rw [List.length_reverse]; rw [List.length_map] at hi; exact hi)]
    rfl
end
end Brd
set_option maxHeartbeats 1000000
namespace Brd
open PySem PySem.Spec PyProof.Rows L2 BM
section
variable {P : Program} {w : World} {K : PySem.W.Frag} {mg : Str → Option Value} {base : Heap}
/-! ### put_together -/
theorem sc_put : FnScope ["words", "found", "word", "number"] ["words"] (defScope (top 2)) := ⟨rfl, rfl, rfl, by decide +kernel, rfl, by decide +kernel, by decide +kernel⟩
def R_put : List Ob → Ms → Pk → Prop := fun os M post => ∃ (l : Addr) (ws : List Wd), ws.flatten.length ≤ sizeLine ∧ os = [.r l] ∧ M = [(l, Mo.l (ws.map fun w => .d (kW w)))] ∧ post = fun o' M' => o' = .d (kW (put ws)) ∧ M' = M
theorem act_snoc (w : Wd) (x : Int) (s : List Int) : act (w ++ [x]) s = psh (act w s) x := by rw [act_append]; rfl
theorem take_snoc {α : Type} {l : List α} {k : Nat} {x : α} (h : l[k]? = some x) : l.take (k + 1) = l.take k ++ [x] := by rw [List.take_add_one, h]; rfl
theorem flat_room {ws : List Wd} {i k : Nat} {u : Wd} (h : ws[i]? = some u) (hk : k < u.length) : (ws.take i).flatten.length + k < ws.flatten.length := by
  have e : ws = ws.take i ++ u :: ws.drop (i + 1) := by
    conv => lhs; rw [← List.take_append_drop i ws]
    obtain ⟨hi, e⟩ := List.getElem?_eq_some_iff.mp h
    rw [List.drop_eq_getElem_cons hi, e]
  conv => rhs; rw [e]
  rw [List.flatten_append, List.flatten_cons, List.length_append, List.length_append]
  omega
theorem kn_put (T : Txt w K mg) : Kn CX0 P w K mg base "put_together" ["words"] 1 (spG w K R_put) := by
  refine kn_mk (T.d 1 _ rfl) (T.g 1 _ rfl) sc_put (fun fd F => F.bindsN fun _ _ _ _ _ _ us hl => match us, hl with | [_], _ => rfl) ?_ ?_
  · rintro _ _ _ ⟨_, _, _, rfl, _⟩; rfl
  · rintro cdv A outer s H E _ _ _ hr ⟨l, ws, hz, rfl, rfl, rfl⟩
    refine so_asg 1 (ex_lst (ea_nil ⟨Nat.zero_le _, fun p => ?_⟩)) sc_put.nd
    refine so_forL PassesOwn.never rfl ((ed_var 0).ex ⟨l, _, rfl, fun i G M => ∃ g2 g3, G = [some (.r l), some (.r p), g2, g3] ∧ M = [(l, Mo.l (ws.map fun w => .d (kW w))), (p, Mo.l ((act (ws.take i).flatten []).reverse.map Ob.num))], ⟨none, none, rfl, rfl⟩, fun i G M ⟨_, _, _, e⟩ => ⟨0, by rw [e]; rfl⟩, ?_, ?_⟩)
    · rintro i ob _ _ hob ⟨g2, g3, rfl, rfl⟩
      rw [List.getElem?_map] at hob
      obtain ⟨u, hu, rfl⟩ := Option.map_eq_some_iff.mp hob
      refine go_name 2 ?_ sc_put.nd
      refine so_forT PassesOwn.never rfl (ks := u.map .num) (ed_var 2) (fun k G M => ∃ g3, G = [some (.r l), some (.r p), some (.d (kW u)), g3] ∧ M = [(l, Mo.l (ws.map fun w => .d (kW w))), (p, Mo.l ((act (u.take k) (act (ws.take i).flatten [])).reverse.map Ob.num))]) ⟨g3, rfl, rfl⟩ ?_ ?_
      · rintro k kk _ _ hkk ⟨g3, rfl, rfl⟩
        rw [List.getElem?_map] at hkk
        obtain ⟨x, hx, rfl⟩ := Option.map_eq_some_iff.mp hkk
        refine go_name 3 ?_ sc_put.nd
        have hlen : (act (u.take k) (act (ws.take i).flatten [])).length < sizeLine := by
          have h1 := act_len (u.take k) (act (ws.take i).flatten [])
          have h2 := act_len (ws.take i).flatten []
          have h3 := flat_room hu (List.getElem?_eq_some_iff.mp hx).1
          have h4 : (u.take k).length ≤ k := by rw [List.length_take]; omega
          simp only [List.length_nil] at h2
          omega
        have hnext : act (u.take (k + 1)) (act (ws.take i).flatten []) = psh (act (u.take k) (act (ws.take i).flatten [])) x := by rw [take_snoc hx, act_snoc]
        cases ht : act (u.take k) (act (ws.take i).flatten []) with
        | nil =>
          rw [ht] at hnext
          refine so_ifK (k := false) (eb_w (eb_and (k := false) (l := true) (eb_neNil (ns := []) (j := 1) (hu64 hr) (ed_var 1) rfl) fun e => nomatch e)) (fun e => nomatch e) fun _ => ?_
          refine so_expr (ex_append ((ed_var 1).ex ⟨p, 1, _, rfl, rfl, ea_cons ((ed_var 3).ex (ea_nil ⟨1, _, _, rfl, rfl, by decide, ?_⟩))⟩))
          refine so_nil (so_nil ⟨_, rfl, ?_⟩)
          rw [hnext]
          rfl
        | cons y r =>
          rw [ht] at hnext hlen
          have hne : (!((y :: r).reverse).isEmpty) = true := by simp
          have hat : atI ((y :: r).reverse.map Ob.num) (-1) = some (Ob.num y) := by rw [List.reverse_cons, List.map_append]; exact atI_last _ _
          refine so_ifK (k := decide (y = -x)) ((eb_w (eb_and (k := !((y :: r).reverse).isEmpty) (l := decide (y = -x)) (eb_neNil (ns := (y :: r).reverse) (j := 1) (hu64 hr) (ed_var 1) rfl) fun _ => eb_and1 (eb_eqI (ed_ixL (j := 1) (ed_var 1) (ed_neg ed_int) rfl hat) (ed_neg (ed_var 3))))).cast (by rw [hne, Bool.true_and])) (fun e => ?_) fun e => ?_
          · have e := of_decide_eq_true e
            refine so_expr (ex_pop ((ed_var 1).ex ⟨p, 1, _, Ob.num y, rfl, rfl, ?_, ?_⟩))
            · rw [List.reverse_cons, List.map_append, List.length_append]
              simp
            · refine so_nil (so_nil ⟨_, rfl, ?_⟩)
              rw [hnext, e, List.reverse_cons, List.map_append]
              have e2 : psh (-x :: r) x = r := by simp [psh]
              rw [e2]
              simp
          · have e := of_decide_eq_false e
            refine so_expr (ex_append ((ed_var 1).ex ⟨p, 1, _, rfl, rfl, ea_cons ((ed_var 3).ex (ea_nil ⟨1, _, _, rfl, rfl, by rw [List.length_map, List.length_reverse]; exact hlen, ?_⟩))⟩))
            refine so_nil (so_nil ⟨_, rfl, ?_⟩)
            have e2 : psh (y :: r) x = x :: y :: r := by simp [psh, e]
            rw [hnext, e2, List.reverse_cons (a := x), List.map_append]
            rfl
      · rintro _ _ ⟨g3, rfl, rfl⟩
        refine so_nil ⟨_, _, rfl, ?_⟩
        rw [List.length_map, List.take_length, take_snoc hu, List.flatten_append, act_append]
        simp
    · rintro _ _ ⟨g2, g3, rfl, rfl⟩
      refine so_retS (ED.ex (ed_tupleS (ks := (put ws).map .num) (j := 1) (ed_var 1) ?_ T.z_tuple) ⟨_, List.Sublist.cons₂ _ (List.nil_sublist _), rfl, rfl⟩)
      rw [List.length_map, List.take_length, List.map_map]
      rfl
end
end Brd
set_option maxHeartbeats 1000000
namespace Brd
open PySem PySem.Spec PyProof.Rows L2 BM
/-- objects of the store forgotten -/
theorem EX.forget {X : Cx} {C : Ct} {e : Expr} {o : Ob} (h : EX X C e fun o' M => o' = o ∧ List.Sublist C.M M) : ED X C e o := fun σ H A Q q =>
  h σ H A Q fun o' M v H' ⟨e1, e2⟩ t A' r => by subst e1; exact q _ _ v H' ⟨rfl, rfl⟩ t (A'.sub e2) r
theorem dec_step (b : Bool) : decide ([NestedKey.text (stS b)] = [NestedKey.text "over"]) = b := by
  cases b
  · exact decide_eq_false fun e => by injection e with e _; injection e with e; revert e; decide
  · exact decide_eq_true rfl
theorem le3 : 3 ≤ sizeLine := by decide
theorem flat_len3 (a b c : Wd) : [a, b, c].flatten.length = a.length + b.length + c.length := by simp [Nat.add_assoc]
section
variable {P : Program} {w : World} {K : PySem.W.Frag} {mg : Str → Option Value} {base : Heap}
/-! ### crossed_words -/
section
variable {X : Cx} {C : Ct} {e : Expr} {p pos : Pos} {k : Nat} {CX : CXT}
theorem ed_putN {ws : List Wd} (F : Kn CX X.prog X.w X.K X.mg X.base "put_together" ["words"] k (spG X.w X.K R_put)) (hr : Room k X.A) (hx : Passes CX X E0) (h : EX X C e fun o M => ∃ l, o = .r l ∧ M = C.M ++ [(l, Mo.l (ws.map fun w => .d (kW w)))]) (hz : ws.flatten.length ≤ sizeLine) (hg : Gl X "put_together" := by rfl)
    (he : starEach [e] X.env = (false, eval e X.env) :: starEach [] X.env := by rfl) (hpl : (backTo pos (starEach [] X.env)).any (·.1) = false := by rfl) : ED X C (.Call (.Name "put_together" p) [e] [] pos) (.d (kW (put ws))) :=
  EX.forget (ex_callD F hr hx (ea_cons (EX.mono h fun o M ⟨l, e1, e2⟩ => ea_nil ⟨C.M.length, l, Mo.l (ws.map fun w => .d (kW w)), _, by rw [e2]; simp, ⟨l, ws, hz, by rw [e1], rfl, rfl⟩, fun o' M' ⟨e3, e4⟩ => ⟨_, e4, e3, by rw [e2, set_last]; exact List.sublist_append_left _ _⟩⟩) he) hg (by decide) he hpl)
end
theorem sc_crossed : FnScope ["step", "left", "right"] ["step", "left", "right"] (defScope (top 3)) := ⟨rfl, rfl, rfl, by decide +kernel, rfl, by decide +kernel, by decide +kernel⟩
def G_crossed : List Ob → Ob → Prop := fun os o => ∃ (b : Bool) (u v : Wd), u.length + v.length + u.length ≤ sizeLine ∧ v.length + u.length + v.length ≤ sizeLine ∧ os = [.d (kS b), .d (kW u), .d (kW v)] ∧ o = .tup [kW (stepw b u v).1, kW (stepw b u v).2]
theorem kn_crossed (T : Txt w K mg) : Kn CX0 P w K mg base "crossed_words" ["step", "left", "right"] 2 (spG w K (RD G_crossed)) := by
  refine kn_mk (T.d 2 _ rfl) (T.g 2 _ rfl) sc_crossed (fun fd F => F.bindsN fun _ _ _ _ _ _ us hl => match us, hl with | [_, _, _], _ => rfl) ?_ ?_
  · rintro _ _ _ ⟨_, _, ⟨_, _, _, _, _, rfl, _⟩, _⟩; rfl
  · rintro cdv A outer s H E _ _ _ hr ⟨rfl, _, ⟨b, u, v, z1, z2, rfl, rfl⟩, rfl⟩
    have hop : ∀ (x : Wd), x.length ≤ sizeLine → G_opposite [.d (kW x)] (.d (kW (opp x))) := fun x hx => ⟨x, hx, rfl, rfl⟩
    refine so_ifK ((eb_eqT (ks := [.text (stS b)]) (hu64 hr) (ed_var 0) (ed_tup (eds_cons ed_str eds_nil)) (by show NestedKey.depthAll _ ≤ 8; decide +revert)).cast (dec_step b)) (fun hb => ?_) (fun hb => so_nil ?_)
    · subst hb
      refine so_ret (ED.ex (ed_tup (eds_cons (ed_putN (ws := [u, v, opp u]) (kn_put T) hr pass0 (ex_lst (ea_cons ((ed_var 1).ex (ea_cons ((ed_var 2).ex (ea_cons ((ed_call (kn_opposite T) hr pass0 (eds_cons (ed_var 1) eds_nil) (hop u (by omega))).ex (ea_nil ⟨le3, fun p => ⟨p, rfl, rfl⟩⟩)))))))) (by rw [flat_len3, opp_len]; exact z1)) (eds_cons (ed_var 1) eds_nil))) ⟨rfl, rfl⟩)
    · subst hb
      refine so_ret (ED.ex (ed_tup (eds_cons (ed_var 2) (eds_cons (ed_putN (ws := [opp v, u, v]) (kn_put T) hr pass0 (ex_lst (ea_cons ((ed_call (kn_opposite T) hr pass0 (eds_cons (ed_var 2) eds_nil) (hop v (by omega))).ex (ea_cons ((ed_var 1).ex (ea_cons ((ed_var 2).ex (ea_nil ⟨le3, fun p => ⟨p, rfl, rfl⟩⟩)))))))) (by rw [flat_len3, opp_len]; exact z2)) eds_nil))) ⟨rfl, rfl⟩)

/-! ### words_of -/

theorem sc_words : FnScope ["kit", "picture", "above", "layers", "row", "number", "place", "step", "left", "right"] ["kit", "picture"] (defScope (top 4)) := ⟨rfl, rfl, rfl, by decide +kernel, rfl, by decide +kernel, by decide +kernel⟩
def G_words : List Ob → Ob → Prop := fun os o => ∃ (kit : NestedKey) (ab : List Str) (ls : List Lay), ab.length ≤ 100 ∧ Valid ab.length ls ∧ ls.length ≤ 18 ∧ os = [.d kit, .d (kP ab ls)] ∧ o = .d (kWs (words ab.length ls))
def rowO (ws : List Wd) : List Ob := ws.map fun w => .d (kW w)
theorem row_at {ws : List Wd} {i : Nat} (h : i < ws.length) : (rowO ws)[i]? = some (.d (kW (ws.getD i []))) := by
  unfold rowO
  rw [List.getElem?_map, List.getD_eq_getElem?_getD, List.getElem?_eq_getElem h]; rfl
theorem row_set (ws : List Wd) (i : Nat) (x : Wd) : (rowO ws).set i (.d (kW x)) = rowO (ws.set i x) := by
  unfold rowO
  rw [List.map_set]
theorem row_len (ws : List Wd) : (rowO ws).length = ws.length := by simp [rowO]
theorem wordsF_snoc (row : List Wd) (ls : List Lay) (l : Lay) : wordsF row (ls ++ [l]) = layw (wordsF row ls) l := by unfold wordsF; rw [List.foldl_append]; rfl
theorem wordsF_len : ∀ (ls : List Lay) (row : List Wd), (wordsF row ls).length = row.length
  | [], _ => rfl
  | l :: ls, row => by
    show (wordsF (layw row l) ls).length = _
    rw [wordsF_len ls, layw_len]
theorem pl19 : pl 19 ≤ sizeLine := by decide
theorem ids_take {n i : Nat} (h : i < n) : (ids n).take (i + 1) = (ids n).take i ++ [[(i : Int) + 1]] := take_snoc (by
  have := ids_at h
  rw [List.getD_eq_getElem?_getD, List.getElem?_eq_getElem (by rw [ids_len]; exact h)] at this
  rw [List.getElem?_eq_getElem (by rw [ids_len]; exact h)]
  exact congrArg some this)
theorem ixN_n {n j : Nat} (hj : j < n) : ixN n (j : Int) = some j := by
  unfold ixN
  rw [if_pos (by omega), if_pos (by omega), Int.toNat_natCast]
theorem so_setL2 {X : Cx} {z : Zx} {C : Ct} {e a b : Expr} {pos k1 : Pos} {rest : List Stmt} {ae : AE} (h : EX X C e fun o M => EX X { C with M := M } a fun o1 M1 => EX X { C with M := M1 } b fun o2 M2 => ∃ (l : Addr) (j : Nat) (xs xs' : List Ob) (i : Int) (n : Nat), o1 = .r l ∧ o2 = .num i ∧ M2[j]? = some (l, Mo.l xs) ∧ ixN xs.length i = some n ∧ xs.set n o = xs' ∧ SO X z { C with M := M2.set j (l, Mo.l xs') } rest ae)
    (hs : swapsWithSole [.Subscript a b k1] e pos.line X.env = pure false := by rfl) (hw : swappedStores [.Subscript a b k1] e X.env = pure none := by rfl)
    (h1 : (assignEach [.Subscript a b k1] X.env).map (·.2) = [assign (.Subscript a b k1) X.env] := by rfl)
    (ha : ∀ v, assign (.Subscript a b k1) X.env v = (do
      let ov ← holding [v] (eval a X.env)
      let iv ← holding [v, ov] (eval b X.env)
      standAt k1
      holding [v, ov, iv] (setItem ov iv v)
      release [v, ov, iv] []) := by intro _; rfl) : SO X z C (.Assign [.Subscript a b k1] e pos :: rest) ae :=
  so_setL (EX.mono h fun o M h2 => EX.mono h2 fun o1 M1 h3 => EX.mono h3 fun o2 M2 ⟨l, j, xs, xs', i, n, e1, e2, e3, e4, e5, e6⟩ => ⟨l, j, xs, i, n, e1, e2, e3, e4, by subst e5; exact e6⟩) hs hw h1 ha
theorem kn_words (T : Txt w K mg) : Kn CX0 P w K mg base "words_of" ["kit", "picture"] 3 (spG w K (RD G_words)) := by
  refine kn_mk (T.d 3 _ rfl) (T.g 3 _ rfl) sc_words (fun fd F => F.bindsN fun _ _ _ _ _ _ us hl => match us, hl with | [_, _], _ => rfl) ?_ ?_
  · rintro _ _ _ ⟨_, _, ⟨_, _, _, _, _, _, rfl, _⟩, _⟩; rfl
  · rintro cdv A outer s H E _ _ _ hr ⟨rfl, _, ⟨kit, ab, ls, hab, hv, hls, rfl, rfl⟩, rfl⟩
    refine so_asgG ((ed_var 1).ex (go_tup (ks := [kSs ab, kLs ls]) rfl (gos_cons (go_name 2 (gos_cons (go_name 3 (gos_nil ?_) sc_words.nd)) sc_words.nd))))
    refine so_setLc1 5 rfl sc_words.nd (blkOk_by (N := ["kit", "picture", "above", "layers", "row", "number", "place", "step", "left", "right"]) (sc := defScope (top 4)) (by decide +kernel)) (n := (ab.map NestedKey.text).length) (item := fun i => .num i) (by have := line; rw [List.length_map]; omega) (fun _ _ _ _ _ => pg_name (i := 5) sc_words.nd rfl (Or.inl rfl)) ?_ (fun i acc M => acc = rowO ((ids ab.length).take i) ∧ M = []) ⟨rfl, rfl⟩ ?_ (P := fun o M => ∃ r, o = .r r ∧ M = [(r, Mo.l (rowO (ids ab.length)))]) ?_ (hf := fun _ => rfl) 4 ?_ rfl (sw_true rfl rfl rfl (by decide +kernel))
    · exact ir_range (n := ((ab.map NestedKey.text).length : Int)) (ed_len (ed_var 2) T.z_len) (by rw [List.length_map]; omega) (by rw [List.length_map]; omega) T.z_range
    · rintro i acc M D hi hl ⟨rfl, rfl⟩ s H Cc cl fp
      rw [List.length_map] at hi
      refine (ed_tup (ks := [.num ((i : Int) + 1)]) (eds_cons (ed_add (ed_var 5) ed_int) eds_nil)).ex ⟨[], rfl, ?_, rfl⟩
      rw [ids_take hi]
      unfold rowO
      rw [List.map_append]
      rfl
    · rintro acc M D hl ⟨rfl, rfl⟩
      refine ⟨D, rfl, ?_⟩
      rw [List.length_map, List.take_of_length_le (by rw [ids_len]; exact Nat.le_refl _)]
      rfl
    · rintro _ _ ⟨r, rfl, rfl⟩
      refine so_forT PassesOwn.never rfl (ks := ls.map kL) (ed_var 3) (fun i G M => ∃ g6 g7 g8 g9, G = [some (.d kit), some (.d (kP ab ls)), some (.d (kSs ab)), some (.d (kLs ls)), some (.r r), none, g6, g7, g8, g9] ∧ M = [(r, Mo.l (rowO (wordsF (ids ab.length) (ls.take i))))]) ⟨none, none, none, none, rfl, rfl⟩ ?_ ?_
      · rintro i kk _ _ hkk ⟨g6, g7, g8, g9, rfl, rfl⟩
        rw [List.getElem?_map] at hkk
        obtain ⟨l, hx, rfl⟩ := Option.map_eq_some_iff.mp hkk
        have hi : i < ls.length := (List.getElem?_eq_some_iff.mp hx).1
        have hl : l.1 + 1 < ab.length := hv l (List.mem_of_getElem? hx)
        obtain ⟨row, hrow⟩ : ∃ row, row = wordsF (ids ab.length) (ls.take i) := ⟨_, rfl⟩
        have rl : row.length = ab.length := by rw [hrow, wordsF_len, ids_len]
        have lb : LB i row := by
          have := lb_run (k := 0) (ids_len ab.length) (fun x hx => hv x (List.mem_of_mem_take hx) : Valid ab.length (ls.take i)) (lb_ids _)
          rw [List.length_take, Nat.min_eq_left (by omega), Nat.zero_add, ← hrow] at this
          exact this
        obtain ⟨t1, t2⟩ := two_len lb (show l.1 ≠ l.1 + 1 by omega)
        have hpl : pl (i + 2) ≤ sizeLine := Nat.le_trans (pl_mono (show i + 2 ≤ 19 by omega)) pl19
        rw [← hrow]
        have a1 : atI (rowO row) (l.1 : Int) = some (.d (kW (row.getD l.1 []))) := atI_nat (row_at (by omega))
        have a2 : atI (rowO row) ((l.1 : Int) + 1) = some (.d (kW (row.getD (l.1 + 1) []))) := atI_nat (j := l.1 + 1) (row_at (by omega))
        refine go_tup (ks := [.num l.1, kS l.2]) rfl (gos_cons (go_name 6 (gos_cons (go_name 7 (gos_nil ?_) sc_words.nd)) sc_words.nd))
        refine so_asgG ((ed_call (kn_crossed T) hr pass0 (eds_cons (ed_var 7) (eds_cons (ed_ixL (j := 0) (ed_var 4) (ed_var 6) rfl a1) (eds_cons (ed_ixL (j := 0) (ed_var 4) (ed_add (ed_var 6) ed_int) rfl a2) eds_nil))) ⟨l.2, row.getD l.1 [], row.getD (l.1 + 1) [], Nat.le_trans t1 hpl, Nat.le_trans t2 hpl, rfl, rfl⟩).ex (go_tup rfl (gos_cons (go_name 8 (gos_cons (go_name 9 (gos_nil ?_) sc_words.nd)) sc_words.nd))))
        refine so_setL2 ((ed_var 8).ex ((ed_var 4).ex ((ed_var 6).ex ⟨r, 0, rowO row, _, l.1, l.1, rfl, rfl, rfl, ixN_n (by rw [row_len]; omega), row_set _ _ _, ?_⟩)))
        refine so_setL2 ((ed_var 9).ex ((ed_var 4).ex ((ed_add (ed_var 6) ed_int).ex ⟨r, 0, rowO _, _, (l.1 : Int) + 1, l.1 + 1, rfl, rfl, rfl, ixN_n (j := l.1 + 1) (by rw [row_len, List.length_set]; omega), row_set _ _ _, ?_⟩)))
        have e9 : layw row l = wordsF (ids ab.length) (ls.take (i + 1)) := by rw [take_snoc hx, wordsF_snoc, ← hrow]
        exact so_nil ⟨_, _, _, _, rfl, congrArg (fun x => [(r, Mo.l (rowO x))]) e9⟩
      · rintro _ _ ⟨g6, g7, g8, g9, rfl, rfl⟩
        rw [List.length_map, List.take_length]
        refine so_retS (ED.ex (ed_tupleS (ks := (words ab.length ls).map kW) (j := 0) (ed_var 4) ?_ T.z_tuple) ⟨_, List.nil_sublist _, rfl, rfl⟩)
        unfold rowO words
        rw [List.map_map]
        rfl
end
end Brd
set_option maxHeartbeats 1000000
namespace Brd
open PySem PySem.Spec PyProof.Rows L2 BM
theorem cut_nn {α : Type} (xs : List α) {i j : Nat} (h : j ≤ xs.length) (hij : i ≤ j) : cutN xs (some (i : Int)) (some (j : Int)) = (xs.drop i).take (j - i) := by
  unfold cutN
  rw [HT.sIx_nat, HT.sIx_nat, Nat.min_eq_left h, Nat.min_eq_left (by omega)]
theorem cut_0n {α : Type} (xs : List α) (j : Nat) : cutN xs none (some (j : Int)) = xs.take j := by
  unfold cutN
  rw [HT.sIx_nat, HT.sIx_none, Nat.sub_zero, List.drop_zero]
  by_cases h : j ≤ xs.length
  · rw [Nat.min_eq_left h]
  · rw [Nat.min_eq_right (by omega), List.take_of_length_le (Nat.le_refl _), List.take_of_length_le (by omega)]
theorem cut_n0 {α : Type} (xs : List α) (i : Nat) : cutN xs (some (i : Int)) none = xs.drop i := by
  unfold cutN
  rw [HT.sIx_nat, HT.sIx_none]
  by_cases h : i ≤ xs.length
  · rw [Nat.min_eq_left h, List.take_of_length_le (by rw [List.length_drop]; exact Nat.le_refl _)]
  · rw [Nat.min_eq_right (by omega), Nat.sub_self, List.drop_eq_nil_of_le (by omega : xs.length ≤ i)]; simp
section
variable {X : Cx} {C : Ct} {a b c : Expr} {ks : List NestedKey} {pos p2 : Pos}
theorem ed_to (i : Nat) (ha : ED X C a (.tup ks)) (hb : ED X C b (.num i)) : ED X C (.Subscript a (.Slice none (some b) none p2) pos) (.tup (ks.take i)) :=
  (ed_slice (lo := none) (hi := some b) (i := none) (j := some (i : Int)) ha rfl ⟨_, rfl, hb⟩).cast (by rw [cut_0n])
theorem ed_from (i : Nat) (ha : ED X C a (.tup ks)) (hb : ED X C b (.num i)) : ED X C (.Subscript a (.Slice (some b) none none p2) pos) (.tup (ks.drop i)) :=
  (ed_slice (lo := some b) (hi := none) (i := some (i : Int)) (j := none) ha ⟨_, rfl, hb⟩ rfl).cast (by rw [cut_n0])
theorem ed_part (i j : Nat) (ha : ED X C a (.tup ks)) (hb : ED X C b (.num i)) (hc : ED X C c (.num j)) (h : j ≤ ks.length) (hij : i ≤ j) : ED X C (.Subscript a (.Slice (some b) (some c) none p2) pos) (.tup ((ks.drop i).take (j - i))) :=
  (ed_slice (lo := some b) (hi := some c) (i := some (i : Int)) (j := some (j : Int)) ha ⟨_, rfl, hb⟩ ⟨_, rfl, hc⟩).cast (by rw [cut_nn _ h hij])
end
theorem le16 {n : Nat} (h : n ≤ 1000) : n ≤ sizeLine := by have := line; omega
section
variable {P : Program} {w : World} {K : PySem.W.Frag} {mg : Str → Option Value} {base : Heap}
/-! ### given_for -/
theorem sc_given : FnScope ["kit", "step", "wires", "above", "below"] ["kit", "step", "wires"] (defScope (top 13)) := ⟨rfl, rfl, rfl, by decide +kernel, rfl, by decide +kernel, by decide +kernel⟩
def G_given : List Ob → Ob → Prop := fun os o => ∃ (kit : NestedKey) (b : Bool) (ks : List NestedKey), os = [.d kit, .d (kS b), .tup ks] ∧ o = .tup ks.reverse
theorem kn_given (T : Txt w K mg) : Kn CX0 P w K mg base "given_for" ["kit", "step", "wires"] 1 (spG w K (RD G_given)) := by
  refine kn_mk (T.d 5 _ rfl) (T.g 5 _ rfl) sc_given (fun fd F => F.bindsN fun _ _ _ _ _ _ us hl => match us, hl with | [_, _, _], _ => rfl) ?_ ?_
  · rintro _ _ _ ⟨_, _, ⟨_, _, _, rfl, _⟩, _⟩; rfl
  · rintro cdv A outer s H E _ _ _ hr ⟨rfl, _, ⟨kit, b, ks, rfl, rfl⟩, rfl⟩
    refine so_ifF ((eb_eqS (ed_ix (ed_var 1) ed_int rfl) ed_str).cast (st_over b _ (by decide) (by decide))) ?_
    refine so_ifF ((eb_eqS (ed_ix (ed_var 1) ed_int rfl) ed_str).cast (st_over b _ (by decide) (by decide))) ?_
    refine so_ifT ((eb_neS (ed_ix (ed_var 1) ed_int rfl) ed_str).cast (by rw [st_over b _ (by decide) (by decide)]; rfl)) ?_
    exact so_ret (ED.ex (ed_rev (ed_var 2)) ⟨rfl, rfl⟩)
/-! ### wires_behind -/
theorem sc_behind : FnScope ["kit", "wires", "layer", "place", "step", "end", "given"] ["kit", "wires", "layer"] (defScope (top 14)) := ⟨rfl, rfl, rfl, by decide +kernel, rfl, by decide +kernel, by decide +kernel⟩
def G_behind : List Ob → Ob → Prop := fun os o => ∃ (kit : NestedKey) (row : List Str) (l : Lay), row.length ≤ 100 ∧ l.1 + 1 < row.length ∧ os = [.d kit, .d (kSs row), .d (kL l)] ∧ o = .d (kSs (sbel row l))
theorem kn_behind (T : Txt w K mg) : Kn CX0 P w K mg base "wires_behind" ["kit", "wires", "layer"] 2 (spG w K (RD G_behind)) := by
  refine kn_mk (T.d 6 _ rfl) (T.g 6 _ rfl) sc_behind (fun fd F => F.bindsN fun _ _ _ _ _ _ us hl => match us, hl with | [_, _, _], _ => rfl) ?_ ?_
  · rintro _ _ _ ⟨_, _, ⟨_, _, _, _, _, rfl, _⟩, _⟩; rfl
  · rintro cdv A outer s H E _ _ _ hr ⟨rfl, _, ⟨kit, row, l, hrow, hl, rfl, rfl⟩, rfl⟩
    refine so_asgG ((ed_var 2).ex (go_tup (ks := [.num l.1, kS l.2]) rfl (gos_cons (go_name 3 (gos_cons (go_name 4 (gos_nil ?_) sc_behind.nd)) sc_behind.nd))))
    refine so_asg 5 (ED.ex (ed_add (ed_var 3) (ed_call (kn_feet_taken T) hr pass0 (eds_cons (ed_var 0) (eds_cons (ed_var 4) eds_nil)) ⟨kit, l.2, rfl, rfl⟩)) ?_) sc_behind.nd
    have hlen : ((row.map NestedKey.text).length : Int) = row.length := by rw [List.length_map]
    refine so_ifF ((eb_gt (ed_var 5) (ed_len (ks := row.map .text) (ed_var 1) T.z_len)).cast (decide_eq_false (by rw [hlen]; omega))) ?_
    refine so_asg 6 (ED.ex (ed_call (kn_given T) hr pass0 (eds_cons (ed_var 0) (eds_cons (ed_var 4) (eds_cons (ed_part l.1 (l.1 + 2) (ks := row.map .text) (ed_var 1) (ed_var 3) (ed_var 5) (by rw [List.length_map]; omega) (by omega)) eds_nil))) ⟨kit, l.2, _, rfl, rfl⟩) ?_) sc_behind.nd
    refine so_ifF ((eb_isN (ed_var 6) ed_none).cast rfl) ?_
    refine so_ret (ED.ex ((ed_catT (ed_catT (ed_to l.1 (ks := row.map .text) (ed_var 1) (ed_var 3)) (ed_var 6) ?_) (ed_from (l.1 + 2) (ks := row.map .text) (ed_var 1) (ed_var 5)) ?_).cast ?_) ⟨rfl, rfl⟩)
    · rw [List.length_take, List.length_reverse, List.length_take]; exact le16 (by omega)
    · rw [List.length_append, List.length_take, List.length_reverse, List.length_take, List.length_drop, List.length_drop, List.length_map]; exact le16 (by omega)
    · unfold sbel kSs
      rw [List.map_append, List.map_append, List.map_take, List.map_drop, List.map_reverse, List.map_take, List.map_drop, Nat.add_sub_cancel_left]
/-! ### wires_at, below_of -/
theorem sc_wires : FnScope ["kit", "picture", "at", "wires", "layer"] ["kit", "picture", "at"] (defScope (top 15)) := ⟨rfl, rfl, rfl, by decide +kernel, rfl, by decide +kernel, by decide +kernel⟩
def G_wires : List Ob → Ob → Prop := fun os o => ∃ (kit : NestedKey) (ab : List Str) (ls : List Lay), ab.length ≤ 100 ∧ Valid ab.length ls ∧ os = [.d kit, .d (kP ab ls), .num ls.length] ∧ o = .d (kSs (bel ab ls))
theorem bel_snoc {β : Type} (row : List β) (ls : List Lay) (l : Lay) : bel row (ls ++ [l]) = sbel (bel row ls) l := by unfold bel; rw [List.foldl_append]; rfl
theorem kn_wires (T : Txt w K mg) : Kn CX0 P w K mg base "wires_at" ["kit", "picture", "at"] 3 (spG w K (RD G_wires)) := by
  refine kn_mk (T.d 7 _ rfl) (T.g 7 _ rfl) sc_wires (fun fd F => F.bindsN fun _ _ _ _ _ _ us hl => match us, hl with | [_, _, _], _ => rfl) ?_ ?_
  · rintro _ _ _ ⟨_, _, ⟨_, _, _, _, _, rfl, _⟩, _⟩; rfl
  · rintro cdv A outer s H E _ _ _ hr ⟨rfl, _, ⟨kit, ab, ls, hab, hv, rfl, rfl⟩, rfl⟩
    refine so_asg 3 (ED.ex (ed_ix (k := kSs ab) (ed_var 1) ed_int rfl) ?_) sc_wires.nd
    refine so_forT PassesOwn.never rfl (ks := (ls.map kL).take ls.length) (ed_to ls.length (ed_ix (k := kLs ls) (ed_var 1) ed_int rfl) (ed_var 2)) (fun i G M => ∃ g4, G = [some (.d kit), some (.d (kP ab ls)), some (.num ls.length), some (.d (kSs (bel ab (ls.take i)))), g4] ∧ M = []) ⟨none, rfl, rfl⟩ ?_ ?_
    · rintro i kk _ _ hkk ⟨g4, rfl, rfl⟩
      rw [List.take_of_length_le (Nat.le_of_eq (List.length_map _)), List.getElem?_map] at hkk
      obtain ⟨l, hx, rfl⟩ := Option.map_eq_some_iff.mp hkk
      have hl : l.1 + 1 < ab.length := hv l (List.mem_of_getElem? hx)
      have bl : (bel ab (ls.take i)).length = ab.length := bel_len rfl fun x hx => hv x (List.mem_of_mem_take hx)
      refine go_name 4 ?_ sc_wires.nd
      have e9 : sbel (bel ab (ls.take i)) l = bel ab (ls.take (i + 1)) := by rw [take_snoc hx, bel_snoc]
      refine so_asg 3 (ED.ex (ed_call (kn_behind T) hr pass0 (eds_cons (ed_var 0) (eds_cons (ed_var 3) (eds_cons (ed_var 4) eds_nil))) (o := .d (kSs (bel ab (ls.take (i + 1))))) ⟨kit, bel ab (ls.take i), l, by omega, by omega, rfl, by rw [e9]⟩) ?_) sc_wires.nd
      exact so_nil ⟨_, rfl, rfl⟩
    · rintro _ _ ⟨g4, rfl, rfl⟩
      have e9 : ls.take ((ls.map kL).take ls.length).length = ls := by
        rw [List.take_of_length_le (l := ls.map kL) (Nat.le_of_eq (List.length_map _)), List.length_map, List.take_length]
      refine so_ret (ED.ex ((ed_var 3).cast ?_) ⟨rfl, rfl⟩)
      rw [e9]
theorem sc_below : FnScope ["kit", "picture"] ["kit", "picture"] (defScope (top 16)) := ⟨rfl, rfl, rfl, by decide +kernel, rfl, by decide +kernel, by decide +kernel⟩
def G_below : List Ob → Ob → Prop := fun os o => ∃ (kit : NestedKey) (ab : List Str) (ls : List Lay), ab.length ≤ 100 ∧ Valid ab.length ls ∧ os = [.d kit, .d (kP ab ls)] ∧ o = .d (kSs (bel ab ls))
theorem kn_below (T : Txt w K mg) : Kn CX0 P w K mg base "below_of" ["kit", "picture"] 4 (spG w K (RD G_below)) := by
  refine kn_mk (T.d 8 _ rfl) (T.g 8 _ rfl) sc_below (fun fd F => F.bindsN fun _ _ _ _ _ _ us hl => match us, hl with | [_, _], _ => rfl) ?_ ?_
  · rintro _ _ _ ⟨_, _, ⟨_, _, _, _, _, rfl, _⟩, _⟩; rfl
  · rintro cdv A outer s H E _ _ _ hr ⟨rfl, _, ⟨kit, ab, ls, hab, hv, rfl, rfl⟩, rfl⟩
    refine so_ret (ED.ex (ed_call (kn_wires T) hr pass0 (eds_cons (ed_var 0) (eds_cons (ed_var 1) (eds_cons (ed_len (ks := ls.map kL) (ed_ix (k := kLs ls) (ed_var 1) ed_int rfl) T.z_len) eds_nil))) ⟨kit, ab, ls, hab, hv, ?_, rfl⟩) ⟨rfl, rfl⟩)
    rw [List.length_map]
/-! ### is_number -/
theorem sc_isn : FnScope ["thing", "most"] ["thing", "most"] (defScope (top 21)) := ⟨rfl, rfl, rfl, by decide +kernel, rfl, by decide +kernel, by decide +kernel⟩
def G_isn : List Ob → Ob → Prop := fun os o => ∃ (i m : Int), os = [.num i, .num m] ∧ o = .bl (decide (0 ≤ i) && decide (i ≤ m))
theorem kn_isn (T : Txt w K mg) : Kn CX0 P w K mg base "is_number" ["thing", "most"] 1 (spG w K (RD G_isn)) := by
  refine kn_mk (T.d 9 _ rfl) (T.g 9 _ rfl) sc_isn (fun fd F => F.bindsN fun _ _ _ _ _ _ us hl => match us, hl with | [_, _], _ => rfl) ?_ ?_
  · rintro _ _ _ ⟨_, _, ⟨_, _, rfl, _⟩, _⟩; rfl
  · rintro cdv A outer s H E _ _ _ hr ⟨rfl, _, ⟨i, m, rfl, rfl⟩, rfl⟩
    exact so_ret (ED.ex ((ed_and (k := true) (l := decide (0 ≤ i) && decide (i ≤ m)) (ed_isi (T := "int") (k := .num i) (ed_var 0) rfl (by decide +kernel) T.z_int rfl (by decide) (by decide) T.z_isinstance) fun _ => ed_and (k := true) (l := decide (0 ≤ i) && decide (i ≤ m)) (ed_not (k := false) (ed_isi (T := "bool") (k := .num i) (ed_var 0) rfl (by decide +kernel) T.z_bool rfl (by decide) (by decide) T.z_isinstance)) fun _ => ed_one (ed_chain op_le op_le ed_int (ed_var 0) (ed_var 1)))) ⟨rfl, rfl⟩)
end
end Brd
set_option maxHeartbeats 1000000
namespace Brd
open PySem PySem.Spec PyProof.Rows L2 BM
theorem st_inj {b c : Bool} (h : stS b = stS c) : b = c := by cases b <;> cases c <;> first | rfl | exact absurd h (by decide)
theorem dec_st (b c : Bool) : decide ([NestedKey.text (stS b)] = [NestedKey.text (stS c)]) = decide (b = c) := by
  rw [Bool.eq_iff_iff, decide_eq_true_iff, decide_eq_true_iff]
  constructor
  · intro e; injection e with e _; injection e with e; exact st_inj e
  · intro e; rw [e]
theorem dp_st : ∀ b, NestedKey.depthAll [.text (stS b)] ≤ 8 := by decide
theorem dec_sdL (b : Bool) : decide (sdS b = ("left" : Str)) = b := by cases b <;> rfl
theorem dec_sdR (b : Bool) : decide (sdS b = ("right" : Str)) = !b := by cases b <;> rfl
def turnM (left : Bool) (f s : Lay) : Option (List Lay) := if (if left then s.1 + 2 ≤ f.1 else f.1 + 2 ≤ s.1) then some [s, f] else none
def pairM (f s : Lay) : Option (List Lay) := if f.1 = s.1 ∧ f.2 ≠ s.2 then some [] else none
def threeM (f s t : Lay) : Option (List Lay) := if (f.1 = t.1 ∧ (f.1 = s.1 + 1 ∨ s.1 = f.1 + 1)) ∧ ¬ (f.2 = t.2 ∧ f.2 ≠ s.2) then some [(s.1, t.2), (f.1, s.2), (s.1, f.2)] else none
def oLs : Option (List Lay) → Option Ob := Option.map fun l => .d (kLs l)
/-- the parts of a tuple of data -/
def EDk (X : Cx) (C : Ct) (es : List Expr) (ks : List NestedKey) : Prop := EDs X C es (ks.map .d)
section
variable {X : Cx} {C : Ct} {e : Expr} {es : List Expr} {k : NestedKey} {ks : List NestedKey} {pos : Pos}
theorem ek0 : EDk X C [] [] := eds_nil
theorem ek (h : ED X C e (.d k)) (hr : EDk X C es ks) (hs : starEach (e :: es) X.env = (false, eval e X.env) :: starEach es X.env := by rfl) : EDk X C (e :: es) (k :: ks) := eds_cons h hr hs
theorem ed_tk {n : Nat} (h : EDk X C es ks) (hl : ks.length ≤ 1000 := by (simp only [List.length_cons, List.length_nil]; decide)) : ED X C (.Tuple es n pos) (.d (.tup ks)) := ed_tup h rfl (le16 hl)
end
def cnN (K : PySem.W.Frag) : Addr := He.ga K "NoSlide"
section
variable {P : Program} {w : World} {K : PySem.W.Frag} {mg : Str → Option Value} {base : Heap}
/-! ### layers_turned -/
theorem sc_turned : FnScope ["layers", "side", "first", "second"] ["layers", "side"] (defScope (top 22)) := ⟨rfl, rfl, rfl, by decide +kernel, rfl, by decide +kernel, by decide +kernel⟩
def RX_turned : List Ob → Option Ob → Prop := fun os r => ∃ (f s : Lay) (left : Bool), os = [.d (kLs [f, s]), .text (sdS left)] ∧ r = oLs (turnM left f s)
theorem kn_turned (T : Txt w K mg) : Kn (L2.CX P w) P w K mg base "layers_turned" ["layers", "side"] 1 (spX K (cnN K) RX_turned) := by
  refine kn_mkX (T.d 10 _ rfl) (T.g 10 _ rfl) sc_turned (fun fd F => F.bindsN fun _ _ _ _ _ _ us hl => match us, hl with | [_, _], _ => rfl) ?_ ?_
  · rintro _ _ ⟨_, _, _, rfl, _⟩; rfl
  · rintro cdv A outer s H E _ _ hr ⟨f, s, left, rfl, rfl⟩
    refine so_asgG ((ed_var 0).ex (go_tup (ks := [kL f, kL s]) rfl (gos_cons (go_name 2 (gos_cons (go_name 3 (gos_nil ?_) sc_turned.nd)) sc_turned.nd))))
    refine so_ifK (eb_w (eb_and ((eb_eqS (ed_var 1) ed_str).cast (dec_sdL left)) fun _ => eb_and1 (eb_le (ed_add (ed_ix (k := .num s.1) (ed_var 3) ed_int rfl) ed_int) (ed_ix (k := .num f.1) (ed_var 2) ed_int rfl)))) (fun h => ?_) fun h => so_nil ?_
    · simp only [Bool.and_eq_true, decide_eq_true_eq] at h
      refine so_ret (ED.ex (ed_tk (ek (k := kL s) (ed_var 3) (ek (k := kL f) (ed_var 2) ek0))) ?_)
      show oLs (turnM left f s) = _
      unfold turnM
      rw [h.1, if_pos (by rw [if_pos rfl]; omega)]
      rfl
    · refine so_ifK (eb_w (eb_and ((eb_eqS (ed_var 1) ed_str).cast (dec_sdR left)) fun _ => eb_and1 (eb_le (ed_add (ed_ix (k := .num f.1) (ed_var 2) ed_int rfl) ed_int) (ed_ix (k := .num s.1) (ed_var 3) ed_int rfl)))) (fun h2 => ?_) fun h2 => so_nil ?_
      · simp only [Bool.and_eq_true, Bool.not_eq_true', decide_eq_true_eq] at h2
        refine so_ret (ED.ex (ed_tk (ek (k := kL s) (ed_var 3) (ek (k := kL f) (ed_var 2) ek0))) ?_)
        show oLs (turnM left f s) = _
        unfold turnM
        rw [h2.1, if_pos (by rw [if_neg (by decide)]; omega)]
        rfl
      · refine so_raise T.nx rfl (takes_of rfl rfl rfl rfl) ?_
        show oLs (turnM left f s) = _
        unfold turnM
        cases left with
        | true =>
          have h' : ¬ ((s.1 : Int) + 2 ≤ f.1) := by simpa using h
          rw [if_neg (by rw [if_pos rfl]; omega)]; rfl
        | false =>
          have h' : ¬ ((f.1 : Int) + 2 ≤ s.1) := by simpa using h2
          rw [if_neg (by rw [if_neg (by decide)]; omega)]; rfl
/-! ### layers_paired -/
theorem sc_paired : FnScope ["layers", "first", "second"] ["layers"] (defScope (top 23)) := ⟨rfl, rfl, rfl, by decide +kernel, rfl, by decide +kernel, by decide +kernel⟩
def RX_paired : List Ob → Option Ob → Prop := fun os r => ∃ (f s : Lay), os = [.d (kLs [f, s])] ∧ r = oLs (pairM f s)
theorem nat_num (a b : Nat) : decide ((a : Int) = (b : Int)) = decide (a = b) := by rw [Bool.eq_iff_iff, decide_eq_true_iff, decide_eq_true_iff]; omega
theorem kn_paired (T : Txt w K mg) : Kn (L2.CX P w) P w K mg base "layers_paired" ["layers"] 1 (spX K (cnN K) RX_paired) := by
  refine kn_mkX (T.d 11 _ rfl) (T.g 11 _ rfl) sc_paired (fun fd F => F.bindsN fun _ _ _ _ _ _ us hl => match us, hl with | [_], _ => rfl) ?_ ?_
  · rintro _ _ ⟨_, _, rfl, _⟩; rfl
  · rintro cdv A outer s H E _ _ hr ⟨f, s, rfl, rfl⟩
    refine so_asgG ((ed_var 0).ex (go_tup (ks := [kL f, kL s]) rfl (gos_cons (go_name 1 (gos_cons (go_name 2 (gos_nil ?_) sc_paired.nd)) sc_paired.nd))))
    refine so_ifK (eb_w (eb_or ((eb_neI (ed_ix (k := .num f.1) (ed_var 1) ed_int rfl) (ed_ix (k := .num s.1) (ed_var 2) ed_int rfl)).cast (congrArg _ (nat_num f.1 s.1))) fun _ => eb_or1 ((eb_eqT (ks := [.text (stS f.2)]) (ls := [.text (stS s.2)]) (hu64 hr) (ed_ix (k := kS f.2) (ed_var 1) ed_int rfl) (ed_ix (k := kS s.2) (ed_var 2) ed_int rfl) (dp_st _)).cast (dec_st _ _)))) (fun h => ?_) fun h => so_nil ?_
    · refine so_raise T.nx rfl (takes_of rfl rfl rfl rfl) ?_
      show oLs (pairM f s) = _
      unfold pairM
      simp only [Bool.or_eq_true, Bool.not_eq_true', decide_eq_false_iff_not, decide_eq_true_eq] at h
      rw [if_neg (fun q => h.elim (fun z => z q.1) (fun z => q.2 z))]; rfl
    · refine so_ret (ED.ex (ed_tk ek0) ?_)
      show oLs (pairM f s) = _
      unfold pairM
      simp only [Bool.or_eq_false_iff, Bool.not_eq_false', decide_eq_false_iff_not, decide_eq_true_eq] at h
      rw [if_pos h]; rfl
/-! ### layers_threed -/
theorem sc_threed : FnScope ["layers", "first", "second", "third"] ["layers"] (defScope (top 24)) := ⟨rfl, rfl, rfl, by decide +kernel, rfl, by decide +kernel, by decide +kernel⟩
def RX_threed : List Ob → Option Ob → Prop := fun os r => ∃ (f s t : Lay), os = [.d (kLs [f, s, t])] ∧ r = oLs (threeM f s t)
theorem abs_one (a b : Nat) : decide ((if (a : Int) - b < 0 then -((a : Int) - b) else (a : Int) - b) = 1) = decide (a = b + 1 ∨ b = a + 1) := by
  rw [Bool.eq_iff_iff, decide_eq_true_iff, decide_eq_true_iff]
  split <;> omega
theorem kn_threed (T : Txt w K mg) : Kn (L2.CX P w) P w K mg base "layers_threed" ["layers"] 1 (spX K (cnN K) RX_threed) := by
  refine kn_mkX (T.d 12 _ rfl) (T.g 12 _ rfl) sc_threed (fun fd F => F.bindsN fun _ _ _ _ _ _ us hl => match us, hl with | [_], _ => rfl) ?_ ?_
  · rintro _ _ ⟨_, _, _, rfl, _⟩; rfl
  · rintro cdv A outer s H E _ _ hr ⟨f, s, t, rfl, rfl⟩
    refine so_asgG ((ed_var 0).ex (go_tup (ks := [kL f, kL s, kL t]) rfl (gos_cons (go_name 1 (gos_cons (go_name 2 (gos_cons (go_name 3 (gos_nil ?_) sc_threed.nd)) sc_threed.nd)) sc_threed.nd))))
    refine so_ifK (eb_w (eb_or ((eb_neI (ed_ix (k := .num f.1) (ed_var 1) ed_int rfl) (ed_ix (k := .num t.1) (ed_var 3) ed_int rfl)).cast (congrArg _ (nat_num f.1 t.1))) fun _ => eb_or1 ((eb_neI (ed_abs (ed_sub (ed_ix (k := .num f.1) (ed_var 1) ed_int rfl) (ed_ix (k := .num s.1) (ed_var 2) ed_int rfl)) T.z_abs) ed_int).cast (congrArg _ (abs_one f.1 s.1))))) (fun h => ?_) fun h => so_nil ?_
    · refine so_raise T.nx rfl (takes_of rfl rfl rfl rfl) ?_
      show oLs (threeM f s t) = _
      unfold threeM
      simp only [Bool.or_eq_true, Bool.not_eq_true', decide_eq_false_iff_not] at h
      rw [if_neg (fun q => h.elim (fun z => z q.1.1) (fun z => z q.1.2))]; rfl
    · simp only [Bool.or_eq_false_iff, Bool.not_eq_false', decide_eq_true_eq] at h
      refine so_ifK (eb_w (eb_and ((eb_eqT (ks := [.text (stS f.2)]) (ls := [.text (stS t.2)]) (hu64 hr) (ed_ix (k := kS f.2) (ed_var 1) ed_int rfl) (ed_ix (k := kS t.2) (ed_var 3) ed_int rfl) (dp_st _)).cast (dec_st _ _)) fun _ => eb_and1 ((eb_neT (ks := [.text (stS f.2)]) (ls := [.text (stS s.2)]) (hu64 hr) (ed_ix (k := kS f.2) (ed_var 1) ed_int rfl) (ed_ix (k := kS s.2) (ed_var 2) ed_int rfl) (dp_st _)).cast (congrArg _ (dec_st _ _))))) (fun h2 => ?_) fun h2 => so_nil ?_
      · refine so_raise T.nx rfl (takes_of rfl rfl rfl rfl) ?_
        show oLs (threeM f s t) = _
        unfold threeM
        simp only [Bool.and_eq_true, Bool.not_eq_true', decide_eq_false_iff_not, decide_eq_true_eq] at h2
        rw [if_neg (fun q => q.2 h2)]; rfl
      · refine so_ret (ED.ex (ed_tk (ek (ed_tk (ek (ed_ix (k := .num s.1) (ed_var 2) ed_int rfl) (ek (ed_ix (k := kS t.2) (ed_var 3) ed_int rfl) ek0))) (ek (ed_tk (ek (ed_ix (k := .num f.1) (ed_var 1) ed_int rfl) (ek (ed_ix (k := kS s.2) (ed_var 2) ed_int rfl) ek0))) (ek (ed_tk (ek (ed_ix (k := .num s.1) (ed_var 2) ed_int rfl) (ek (ed_ix (k := kS f.2) (ed_var 1) ed_int rfl) ek0))) ek0)))) ?_)
        show oLs (threeM f s t) = _
        unfold threeM
        have h3 : ¬ (f.2 = t.2 ∧ f.2 ≠ s.2) := fun q => by
          rw [decide_eq_true q.1, decide_eq_false q.2] at h2
          exact absurd h2 (by decide)
        rw [if_pos ⟨h, h3⟩]; rfl
end
end Brd
set_option maxHeartbeats 1000000
namespace Brd
open PySem PySem.Spec PyProof.Rows L2 BM
/-! ### what one slide does to the layers from its place on -/
def midM : List Lay → Sl → Option (Nat × List Lay)
  | f :: s :: _, .turn _ left => (turnM left f s).map fun l => (2, l)
  | f :: s :: _, .pair _ => (pairM f s).map fun l => (2, l)
  | f :: s :: t :: _, .three _ => (threeM f s t).map fun l => (3, l)
  | _, _ => none
def atS : Sl → Nat
  | .turn i _ => i
  | .pair i => i
  | .three i => i
  | .twine i _ _ => i
def ntw : Sl → Bool
  | .twine _ _ _ => false
  | _ => true
theorem slid_mid (n : Nat) (ls : List Lay) (s : Sl) (h : ntw s = true) : slid n ls s = (midM (ls.drop (atS s)) s).map fun x => ls.take (atS s) ++ x.2 ++ ls.drop (atS s + x.1) := by
  have dd : ∀ (i : Nat) (r : List Lay) (k : Nat), ls.drop i = r → ls.drop (i + k) = r.drop k := fun i r k e => by rw [← e, List.drop_drop]
  cases s with
  | turn i left =>
    simp only [slid, atS]
    cases e : ls.drop i with
    | nil => rfl
    | cons f r =>
      cases r with
      | nil => rfl
      | cons s r =>
        simp only [midM, turnM]
        by_cases hc : (if left = true then s.1 + 2 ≤ f.1 else f.1 + 2 ≤ s.1)
        · rw [if_pos hc, if_pos hc]
          simp only [Option.map_some, dd i _ 2 e]
          simp
        · rw [if_neg hc, if_neg hc]
          rfl
  | pair i =>
    simp only [slid, atS]
    cases e : ls.drop i with
    | nil => rfl
    | cons f r =>
      cases r with
      | nil => rfl
      | cons s r =>
        simp only [midM, pairM]
        split
        · simp only [Option.map_some, dd i _ 2 e]
          simp
        · rfl
  | three i =>
    simp only [slid, atS]
    cases e : ls.drop i with
    | nil => rfl
    | cons f r =>
      cases r with
      | nil => rfl
      | cons s r =>
        cases r with
        | nil => rfl
        | cons t r =>
          simp only [midM, threeM]
          split
          · simp only [Option.map_some, dd i _ 3 e]
            simp
          · rfl
  | twine i p o => cases h
theorem kSl_cons (s : Sl) : ∃ (x : Str) (r : List NestedKey), kSl s = .tup (.text x :: .num (atS s) :: r) ∧ (ntw s = true → decide (x = "twine") = false) := by
  cases s
  · exact ⟨_, _, rfl, fun _ => by decide⟩
  · exact ⟨_, _, rfl, fun _ => by decide⟩
  · exact ⟨_, _, rfl, fun _ => by decide⟩
  · exact ⟨_, _, rfl, fun h => nomatch h⟩
section
variable {P : Program} {w : World} {K : PySem.W.Frag} {mg : Str → Option Value} {base : Heap}
/-! ### layers_slid -/
theorem sc_lslid : FnScope ["layers", "slide", "word"] ["layers", "slide"] (defScope (top 25)) := ⟨rfl, rfl, rfl, by decide +kernel, rfl, by decide +kernel, by decide +kernel⟩
def RX_lslid : List Ob → Option Ob → Prop := fun os r => ∃ (ls : List Lay) (s : Sl), ls.length ≤ 1000 ∧ ntw s = true ∧ os = [.d (kLs ls), .d (kSl s)] ∧ r = (midM ls s).map fun x => .tup [.num x.1, kLs x.2]
theorem kn_lslid (T : Txt w K mg) : Kn (L2.CX P w) P w K mg base "layers_slid" ["layers", "slide"] 2 (spX K (cnN K) RX_lslid) := by
  refine kn_mkX (T.d 13 _ rfl) (T.g 13 _ rfl) sc_lslid (fun fd F => F.bindsN fun _ _ _ _ _ _ us hl => match us, hl with | [_, _], _ => rfl) ?_ ?_
  · rintro _ _ ⟨_, _, _, _, rfl, _⟩; rfl
  · rintro cdv A outer s H E _ _ hr ⟨ls, sl, hz, hs, rfl, rfl⟩
    have hlen : (((ls.map kL).length : Nat) : Int) = ls.length := by rw [List.length_map]
    cases sl with
    | turn i left =>
      refine so_asg 2 (ED.ex (ed_ix (k := .text "turn") (ed_var 1) ed_int rfl) ?_) sc_lslid.nd
      refine so_ifK (eb_w (eb_and (k := true) ((eb_eqS (ed_var 2) ed_str).cast (by decide)) fun _ => eb_and (k := true) ((eb_eqI (ed_len (ks := [.text "turn", .num i, .text (sdS left)]) (ed_var 1) T.z_len) ed_int).cast rfl) fun _ => eb_and1 (eb_gt (ed_len (ks := ls.map kL) (ed_var 0) T.z_len) ed_int))) (fun h => ?_) fun h => so_nil ?_
      · simp only [Bool.true_and, decide_eq_true_eq, hlen] at h
        match ls, h with
        | [], h => exact absurd h (by simp)
        | [_], h => exact absurd h (by simp)
        | f :: s :: rest, h =>
          cases hm : turnM left f s with
          | some l => exact so_ret (ED.ex (ed_tk (ek (k := .num 2) ed_int (ek (k := kLs l) (ed_callX (kn_turned T) hr passL (eds_cons (ed_to 2 (ks := (f :: s :: rest).map kL) (ed_var 0) ed_int) (eds_cons (ed_ix (k := .text (sdS left)) (ed_var 1) ed_int rfl) eds_nil)) ⟨f, s, left, rfl, by rw [hm]; rfl⟩) ek0))) (by show Option.map _ (Option.map _ (turnM left f s)) = _; rw [hm]; rfl))
          | none => exact so_retR (er_tup (era_there (o := .num 2) ed_int (era_here (er_call (kn_turned T) hr (takes_of rfl rfl rfl rfl) (eds_cons (ed_to 2 (ks := (f :: s :: rest).map kL) (ed_var 0) ed_int) (eds_cons (ed_ix (k := .text (sdS left)) (ed_var 1) ed_int rfl) eds_nil)) ⟨f, s, left, rfl, by rw [hm]; rfl⟩)))) (by show Option.map _ (Option.map _ (turnM left f s)) = _; rw [hm]; rfl)
      · refine so_ifF (eb_w (eb_and (k := false) (l := false) ((eb_eqS (ed_var 2) ed_str).cast (by decide)) fun e => nomatch e)) ?_
        refine so_ifF (eb_w (eb_and (k := false) (l := false) ((eb_eqS (ed_var 2) ed_str).cast (by decide)) fun e => nomatch e)) ?_
        refine so_raise T.nx rfl (takes_of rfl rfl rfl rfl) ?_
        simp only [Bool.true_and, decide_eq_false_iff_not, hlen] at h
        match ls, h with
        | [], h => rfl
        | [_], h => rfl
        | f :: s :: rest, h => exact absurd (by simp only [List.length_cons]; omega) h
    | pair i =>
      refine so_asg 2 (ED.ex (ed_ix (k := .text "pair") (ed_var 1) ed_int rfl) ?_) sc_lslid.nd
      refine so_ifF (eb_w (eb_and (k := false) (l := false) ((eb_eqS (ed_var 2) ed_str).cast (by decide)) fun e => nomatch e)) ?_
      refine so_ifK (eb_w (eb_and (k := true) ((eb_eqS (ed_var 2) ed_str).cast (by decide)) fun _ => eb_and (k := true) ((eb_eqI (ed_len (ks := [.text "pair", .num i]) (ed_var 1) T.z_len) ed_int).cast rfl) fun _ => eb_and1 (eb_gt (ed_len (ks := ls.map kL) (ed_var 0) T.z_len) ed_int))) (fun h => ?_) fun h => so_nil ?_
      · simp only [Bool.true_and, decide_eq_true_eq, hlen] at h
        match ls, h with
        | [], h => exact absurd h (by simp)
        | [_], h => exact absurd h (by simp)
        | f :: s :: rest, h =>
          cases hm : pairM f s with
          | some l => exact so_ret (ED.ex (ed_tk (ek (k := .num 2) ed_int (ek (k := kLs l) (ed_callX (kn_paired T) hr passL (eds_cons (ed_to 2 (ks := (f :: s :: rest).map kL) (ed_var 0) ed_int) eds_nil) ⟨f, s, rfl, by rw [hm]; rfl⟩) ek0))) (by show Option.map _ (Option.map _ (pairM f s)) = _; rw [hm]; rfl))
          | none => exact so_retR (er_tup (era_there (o := .num 2) ed_int (era_here (er_call (kn_paired T) hr (takes_of rfl rfl rfl rfl) (eds_cons (ed_to 2 (ks := (f :: s :: rest).map kL) (ed_var 0) ed_int) eds_nil) ⟨f, s, rfl, by rw [hm]; rfl⟩)))) (by show Option.map _ (Option.map _ (pairM f s)) = _; rw [hm]; rfl)
      · refine so_ifF (eb_w (eb_and (k := false) (l := false) ((eb_eqS (ed_var 2) ed_str).cast (by decide)) fun e => nomatch e)) ?_
        refine so_raise T.nx rfl (takes_of rfl rfl rfl rfl) ?_
        simp only [Bool.true_and, decide_eq_false_iff_not, hlen] at h
        match ls, h with
        | [], h => rfl
        | [_], h => rfl
        | f :: s :: rest, h => exact absurd (by simp only [List.length_cons]; omega) h
    | three i =>
      refine so_asg 2 (ED.ex (ed_ix (k := .text "three") (ed_var 1) ed_int rfl) ?_) sc_lslid.nd
      refine so_ifF (eb_w (eb_and (k := false) (l := false) ((eb_eqS (ed_var 2) ed_str).cast (by decide)) fun e => nomatch e)) ?_
      refine so_ifF (eb_w (eb_and (k := false) (l := false) ((eb_eqS (ed_var 2) ed_str).cast (by decide)) fun e => nomatch e)) ?_
      refine so_ifK (eb_w (eb_and (k := true) ((eb_eqS (ed_var 2) ed_str).cast (by decide)) fun _ => eb_and (k := true) ((eb_eqI (ed_len (ks := [.text "three", .num i]) (ed_var 1) T.z_len) ed_int).cast rfl) fun _ => eb_and1 (eb_gt (ed_len (ks := ls.map kL) (ed_var 0) T.z_len) ed_int))) (fun h => ?_) fun h => so_nil ?_
      · simp only [Bool.true_and, decide_eq_true_eq, hlen] at h
        match ls, h with
        | [], h => exact absurd h (by simp)
        | [_], h => exact absurd h (by simp)
        | [_, _], h => exact absurd h (by simp)
        | f :: s :: t :: rest, h =>
          cases hm : threeM f s t with
          | some l => exact so_ret (ED.ex (ed_tk (ek (k := .num 3) ed_int (ek (k := kLs l) (ed_callX (kn_threed T) hr passL (eds_cons (ed_to 3 (ks := (f :: s :: t :: rest).map kL) (ed_var 0) ed_int) eds_nil) ⟨f, s, t, rfl, by rw [hm]; rfl⟩) ek0))) (by show Option.map _ (Option.map _ (threeM f s t)) = _; rw [hm]; rfl))
          | none => exact so_retR (er_tup (era_there (o := .num 3) ed_int (era_here (er_call (kn_threed T) hr (takes_of rfl rfl rfl rfl) (eds_cons (ed_to 3 (ks := (f :: s :: t :: rest).map kL) (ed_var 0) ed_int) eds_nil) ⟨f, s, t, rfl, by rw [hm]; rfl⟩)))) (by show Option.map _ (Option.map _ (threeM f s t)) = _; rw [hm]; rfl)
      · refine so_raise T.nx rfl (takes_of rfl rfl rfl rfl) ?_
        simp only [Bool.true_and, decide_eq_false_iff_not, hlen] at h
        match ls, h with
        | [], h => rfl
        | [_], h => rfl
        | [_, _], h => rfl
        | f :: s :: t :: rest, h => exact absurd (by simp only [List.length_cons]; omega) h
    | twine i p o => cases hs
end
end Brd
set_option maxHeartbeats 1000000
namespace Brd
open PySem PySem.Spec PyProof.Rows L2 BM
section
variable {P : Program} {w : World} {K : PySem.W.Frag} {mg : Str → Option Value} {base : Heap}
/-! ### STEPS -/
theorem ed_STEPS {X : Cx} {C : Ct} {p : Pos} (T : Txt X.w X.K X.mg) (hg : Gl X "STEPS" := by rfl) : ED X C (.Name "STEPS" p) (.tup [.text "over", .text "under"]) :=
  ed_glob (v := .ref (He.ga X.K "STEPS")) hg T.steps rfl (fun H => Dv.tup (T.stepsT H) (.cons (.text _) (.cons (.text _) .nil)))
theorem ed_STEPSr {X : Cx} {C : Ct} {p : Pos} (T : Txt X.w X.K X.mg) (hg : Gl X "STEPS" := by rfl) : ED X C (.Name "STEPS" p) (.r (He.ga X.K "STEPS")) :=
  ed_glob (v := .ref (He.ga X.K "STEPS")) hg T.steps rfl (fun H => rfl)
theorem idx_no (o : Bool) : ∀ m, m < (if o then 0 else 1) → (["over", "under"] : List Str)[m]? ≠ some (stS o) := by
  cases o
  · intro m hm
    have h1 : m < 1 := hm
    obtain rfl : m = 0 := by omega
    decide
  · intro m hm
    exact absurd hm (Nat.not_lt_zero _)
/-! ### layers_twined -/
theorem sc_twined : FnScope ["picture", "slide", "word", "at", "place", "step", "other"] ["picture", "slide"] (defScope (top 26)) := ⟨rfl, rfl, rfl, by decide +kernel, rfl, by decide +kernel, by decide +kernel⟩
def RX_twined : List Ob → Option Ob → Prop := fun os r => ∃ (ab : List Str) (ls : List Lay) (i p : Nat) (o : Bool), os = [.d (kP ab ls), .d (kSl (.twine i p o))] ∧ r = if p + 2 ≤ ab.length then some (.d (kLs [(p, o), (p, !o)])) else none
theorem st_in (o : Bool) : stS o ∈ (["over", "under"] : List Str) := by cases o <;> simp [stS]
theorem kn_twined (T : Txt w K mg) : Kn (L2.CX P w) P w K mg base "layers_twined" ["picture", "slide"] 2 (spX K (cnN K) RX_twined) := by
  refine kn_mkX (T.d 14 _ rfl) (T.g 14 _ rfl) sc_twined (fun fd F => F.bindsN fun _ _ _ _ _ _ us hl => match us, hl with | [_, _], _ => rfl) ?_ ?_
  · rintro _ _ ⟨_, _, _, _, _, rfl, _⟩; rfl
  · rintro cdv A outer s H E _ _ hr ⟨ab, ls, i, p, o, rfl, rfl⟩
    refine so_asgG ((ed_var 1).ex (go_tup (ks := [.text "twine", .num i, .num p, .text (stS o)]) rfl (gos_cons (go_name 2 (gos_cons (go_name 3 (gos_cons (go_name 4 (gos_cons (go_name 5 (gos_nil ?_) sc_twined.nd)) sc_twined.nd)) sc_twined.nd)) sc_twined.nd))))
    refine so_ifK (k := !decide (p + 2 ≤ ab.length)) (EB.cast (eb_w (eb_or (k := !(decide (p + 2 ≤ ab.length))) (l := false) (eb_not (k := decide (p + 2 ≤ ab.length)) (et_val ((ed_call (kn_isn T) hr pass0 (eds_cons (ed_var 4) (eds_cons (ed_sub (ed_len (ks := ab.map .text) (ed_ix (k := kSs ab) (ed_var 0) ed_int rfl) T.z_len) ed_int) eds_nil)) ⟨p, _, rfl, rfl⟩).ex ⟨_, rfl, ?_, rfl⟩))) fun _ => eb_or (k := false) (l := false) (eb_not (k := true) (et_val (ED.ex (ed_isi (T := "str") (k := .text (stS o)) (ed_var 5) rfl (by decide +kernel) T.z_str rfl (by decide) (by decide) T.z_isinstance) ⟨_, rfl, rfl, rfl⟩))) fun _ => eb_or1 ((eb_notInS (ss := ["over", "under"]) (ed_var 5) (ed_STEPS T)).cast (by rw [decide_eq_true (st_in o)]; rfl)))) (by rw [Bool.or_false])) (fun h => ?_) fun h => so_nil ?_
    · rw [List.length_map, Bool.eq_iff_iff]
      simp only [Bool.and_eq_true, decide_eq_true_eq]
      omega
    · refine so_raise T.nx rfl (takes_of rfl rfl rfl rfl) ?_
      show (if p + 2 ≤ ab.length then _ else _) = _
      rw [if_neg (by simpa using h)]
    · have hp : p + 2 ≤ ab.length := by simpa using h
      refine so_asg 6 (ED.ex (ed_ix (k := .text (stS (!o))) (i := if o then 1 else 0) (ed_STEPS T) ((ed_sub ed_int (ed_indexS (j := if o then 0 else 1) (ss := ["over", "under"]) (ed_STEPSr T) T.stepsT T.stepsY (ed_var 5) (by cases o <;> rfl) (idx_no o))).cast (by cases o <;> rfl)) (by cases o <;> rfl)) ?_) sc_twined.nd
      refine so_ret (ED.ex (ed_tk (ek (ed_tk (ek (k := .num p) (ed_var 4) (ek (ed_tk (ek (k := .text (stS o)) (ed_var 5) ek0)) ek0))) (ek (ed_tk (ek (k := .num p) (ed_var 4) (ek (ed_tk (ek (k := .text (stS (!o))) (ed_var 6) ek0)) ek0))) ek0))) ?_)
      show (if p + 2 ≤ ab.length then _ else _) = _
      rw [if_pos hp]
      rfl
/-! ### braid_slid -/
theorem sc_bslid : FnScope ["kit", "picture", "slide", "above", "layers", "at", "many", "more"] ["kit", "picture", "slide"] (defScope (top 27)) := ⟨rfl, rfl, rfl, by decide +kernel, rfl, by decide +kernel, by decide +kernel⟩
def RX_bslid : List Ob → Option Ob → Prop := fun os r => ∃ (kit : NestedKey) (ab : List Str) (ls : List Lay) (s : Sl), ls.length ≤ 200 ∧ os = [.d kit, .d (kP ab ls), .d (kSl s)] ∧ r = (slid ab.length ls s).map fun l => .d (kP ab l)
theorem at0 {α : Type} {x : α} {xs : List α} : atI (x :: xs) 0 = some x := atI_nat (j := 0) rfl
theorem at1 {α : Type} {x y : α} {xs : List α} : atI (x :: y :: xs) 1 = some y := atI_nat (j := 1) rfl
theorem if_some {α : Type} {p : Prop} [Decidable p] {x y : α} (h : (if p then some x else none) = some y) : x = y := by
  by_cases hp : p
  · rw [if_pos hp] at h; exact Option.some.inj h
  · rw [if_neg hp] at h; cases h
theorem mid_small {ls : List Lay} {s : Sl} {x : Nat × List Lay} (h : midM ls s = some x) : x.2.length ≤ 3 := by
  unfold midM at h
  split at h
  · simp only [Option.map_eq_some_iff] at h
    obtain ⟨a, h, rfl⟩ := h
    have := if_some h
    subst this
    show 2 ≤ 3
    decide
  · simp only [Option.map_eq_some_iff] at h
    obtain ⟨a, h, rfl⟩ := h
    have := if_some h
    subst this
    show 0 ≤ 3
    decide
  · simp only [Option.map_eq_some_iff] at h
    obtain ⟨a, h, rfl⟩ := h
    have := if_some h
    subst this
    show 3 ≤ 3
    decide
  · cases h
theorem kn_bslid (T : Txt w K mg) : Kn (L2.CX P w) P w K mg base "braid_slid" ["kit", "picture", "slide"] 3 (spX K (cnN K) RX_bslid) := by
  refine kn_mkX (T.d 15 _ rfl) (T.g 15 _ rfl) sc_bslid (fun fd F => F.bindsN fun _ _ _ _ _ _ us hl => match us, hl with | [_, _, _], _ => rfl) ?_ ?_
  · rintro _ _ ⟨_, _, _, _, _, rfl, _⟩; rfl
  · rintro cdv A outer s H E _ _ hr ⟨kit, ab, ls, sl, hz, rfl, rfl⟩
    have hlen : (((ls.map kL).length : Nat) : Int) = ls.length := by rw [List.length_map]
    obtain ⟨wd, r, hk, hw⟩ := kSl_cons sl
    have hgt : 2 ≤ (NestedKey.text wd :: NestedKey.num (atS sl) :: r).length := by simp
    refine so_asgG ((ed_var 1).ex (go_tup (ks := [kSs ab, kLs ls]) rfl (gos_cons (go_name 3 (gos_cons (go_name 4 (gos_nil ?_) sc_bslid.nd)) sc_bslid.nd))))
    have hsl : ∀ {X : Cx} {C : Ct} {e : Expr}, ED X C e (.d (kSl sl)) → ED X C e (.tup (.text wd :: .num (atS sl) :: r)) := fun h => by rw [hk] at h; exact h
    refine so_ifF (eb_w (eb_or (k := false) (l := false) (eb_not (k := true) (et_val (ED.ex (ed_isi (T := "tuple") (k := .tup (.text wd :: .num (atS sl) :: r)) (hsl (ed_var 2)) rfl (by decide +kernel) T.z_tuple rfl (by decide) (by decide) T.z_isinstance) ⟨_, rfl, rfl, rfl⟩))) fun _ => eb_or (k := false) (l := false) ((eb_lt (ed_len (hsl (ed_var 2)) T.z_len) ed_int).cast (decide_eq_false (by omega))) fun _ => eb_or1 (eb_not (k := true) (et_val (ED.ex (ed_isi (T := "str") (k := .text wd) (ed_ix (hsl (ed_var 2)) ed_int at0) rfl (by decide +kernel) T.z_str rfl (by decide) (by decide) T.z_isinstance) ⟨_, rfl, rfl, rfl⟩))))) ?_
    refine so_asg 5 (ED.ex (ed_ix (k := .num (atS sl)) (hsl (ed_var 2)) ed_int at1) ?_) sc_bslid.nd
    refine so_ifK (k := !decide (atS sl ≤ ls.length)) (eb_not (et_val ((ed_call (kn_isn T) (hr.mono (by omega)) pass0 (eds_cons (ed_var 5) (eds_cons (ed_len (ks := ls.map kL) (ed_var 4) T.z_len) eds_nil)) ⟨_, _, rfl, rfl⟩).ex ⟨_, rfl, ?_, rfl⟩))) (fun h => ?_) fun h => so_nil ?_
    · rw [hlen, Bool.eq_iff_iff]
      simp only [Bool.and_eq_true, decide_eq_true_eq]
      omega
    · refine so_raise T.nx rfl (takes_of rfl rfl rfl rfl) ?_
      show Option.map _ (slid ab.length ls sl) = none
      have h1 : ¬ atS sl ≤ ls.length := by simpa using h
      cases e : ntw sl with
      | true =>
        rw [slid_mid _ _ _ e, List.drop_eq_nil_of_le (by omega)]
        rfl
      | false =>
        cases sl with
        | twine i p o =>
          simp only [slid]
          rw [if_neg (fun q => h1 q.1)]
          rfl
        | turn i l => cases e
        | pair i => cases e
        | three i => cases e
    · have h1 : atS sl ≤ ls.length := by simpa using h
      cases e : ntw sl with
      | true =>
        have sm := slid_mid ab.length ls sl e
        refine so_ifK (eb_w (eb_and (k := false) (l := false) (EB.cast (eb_eqS (ed_ix (hsl (ed_var 2)) ed_int at0) ed_str) (hw e)) fun e => nomatch e)) (fun e => nomatch e) fun _ => ?_
        cases hm : midM (ls.drop (atS sl)) sl with
        | none =>
          rw [hm] at sm
          refine so_asgGR (er_call (kn_lslid T) hr (takes_of rfl rfl rfl rfl) (eds_cons (ed_from (atS sl) (ks := ls.map kL) (ed_var 4) (ed_var 5)) (eds_cons (ed_var 2) eds_nil)) ⟨ls.drop (atS sl), sl, by rw [List.length_drop]; omega, e, by rw [← List.map_drop]; rfl, by rw [hm]; rfl⟩) ?_
          show Option.map _ (slid ab.length ls sl) = none
          rw [sm]; rfl
        | some x =>
          rw [hm] at sm
          have hx := mid_small hm
          refine so_asgG (ED.ex (ed_callX (o := .tup [.num x.1, kLs x.2]) (kn_lslid T) hr passL (eds_cons (ed_from (atS sl) (ks := ls.map kL) (ed_var 4) (ed_var 5)) (eds_cons (ed_var 2) eds_nil)) ⟨ls.drop (atS sl), sl, by rw [List.length_drop]; omega, e, by rw [← List.map_drop]; rfl, by rw [hm]; rfl⟩) (go_tup (ks := [.num x.1, kLs x.2]) rfl (gos_cons (go_name 6 (gos_cons (go_name 7 (gos_nil ?_) sc_bslid.nd)) sc_bslid.nd))))
          refine so_nil (so_ret (ED.ex (ed_tk (ek (k := kSs ab) (ed_var 3) (ek (k := .tup (((ls.map kL).take (atS sl) ++ x.2.map kL) ++ (ls.map kL).drop (atS sl + x.1))) (ed_catT (ed_catT (ls := x.2.map kL) (ed_to (atS sl) (ks := ls.map kL) (ed_var 4) (ed_var 5)) (ed_var 7) ?_) (ed_from (atS sl + x.1) (ks := ls.map kL) (ed_var 4) (ED.cast (ed_add (ed_var 5) (ed_var 6)) (by rw [Int.natCast_add]))) ?_) ek0))) ?_))
          · rw [List.length_take, List.length_map, List.length_map]; exact le16 (by omega)
          · rw [List.length_append, List.length_take, List.length_map, List.length_map, List.length_drop, List.length_map]; exact le16 (by omega)
          · show Option.map _ (slid ab.length ls sl) = _
            rw [sm]
            simp [kP, kLs]
      | false =>
        cases sl with
        | turn i l => cases e
        | pair i => cases e
        | three i => cases e
        | twine i p o =>
          have h1 : i ≤ ls.length := h1
          refine so_ifK (k := true) (eb_w (eb_and (k := true) (l := true) (EB.cast (eb_eqS (ed_ix (k := .text "twine") (ed_var 2) ed_int rfl) ed_str) (by decide)) fun _ => eb_and1 (EB.cast (eb_eqI (ed_len (ks := [.text "twine", .num i, .num p, .text (stS o)]) (ed_var 2) T.z_len) ed_int) rfl))) (fun _ => ?_) (fun e => nomatch e)
          refine so_asg 6 (ED.ex (ed_int) ?_) sc_bslid.nd
          by_cases hp : p + 2 ≤ ab.length
          · refine so_asg 7 (ED.ex (ed_callX (o := .d (kLs [(p, o), (p, !o)])) (kn_twined T) (hr.mono (by omega)) passL (eds_cons (ed_var 1) (eds_cons (ed_var 2) eds_nil)) ⟨ab, ls, i, p, o, rfl, by rw [if_pos hp]⟩) ?_) sc_bslid.nd
            refine so_nil (so_ret (ED.ex (ed_tk (ek (k := kSs ab) (ed_var 3) (ek (k := .tup (((ls.map kL).take i ++ [kL (p, o), kL (p, !o)]) ++ (ls.map kL).drop (i + 0))) (ed_catT (ed_catT (ls := [kL (p, o), kL (p, !o)]) (ed_to i (ks := ls.map kL) (ed_var 4) (ed_var 5)) (ed_var 7) ?_) (ed_from (i + 0) (ks := ls.map kL) (ed_var 4) (ED.cast (ed_add (ed_var 5) (ed_var 6)) (by rw [Int.natCast_add]; rfl))) ?_) ek0))) ?_))
            · rw [List.length_take, List.length_map]; exact le16 (by simp only [List.length_cons, List.length_nil]; omega)
            · rw [List.length_append, List.length_take, List.length_map, List.length_drop, List.length_map]; exact le16 (by simp only [List.length_cons, List.length_nil]; omega)
            · show Option.map _ (slid ab.length ls _) = _
              simp only [slid]
              rw [if_pos ⟨h1, hp⟩]
              simp [kP, kLs]
          · refine so_asgR (er_call (kn_twined T) (hr.mono (by omega)) (takes_of rfl rfl rfl rfl) (eds_cons (ed_var 1) (eds_cons (ed_var 2) eds_nil)) ⟨ab, ls, i, p, o, rfl, by rw [if_neg hp]⟩) ?_ 7 sc_bslid.nd
            show Option.map _ (slid ab.length ls _) = _
            simp only [slid]
            rw [if_neg (fun q => hp q.2)]
            rfl
end
end Brd
set_option maxHeartbeats 1000000
namespace Brd
open PySem PySem.Spec PyProof.Rows L2 BM
/-! ### depths -/
theorem dpa_le {n : Nat} : ∀ {ks : List NestedKey}, (∀ k ∈ ks, k.depth ≤ n) → NestedKey.depthAll ks ≤ n
  | [], _ => by simp [NestedKey.depthAll]
  | k :: ks, h => by
    rw [NestedKey.depthAll]
    have h1 := h k List.mem_cons_self
    have h2 := dpa_le (ks := ks) fun x hx => h x (List.mem_cons_of_mem _ hx)
    omega
theorem dp_kS (b : Bool) : (kS b).depth ≤ 1 := by simp [kS, NestedKey.depth, NestedKey.depthAll]
theorem dp_kL (l : Lay) : (kL l).depth ≤ 2 := by
  have := dp_kS l.2
  simp [kL, NestedKey.depth, NestedKey.depthAll]
  omega
theorem dp_kLs (ls : List Lay) : (kLs ls).depth ≤ 3 := by
  have : NestedKey.depthAll (ls.map kL) ≤ 2 := dpa_le fun k hk => by
    obtain ⟨l, _, rfl⟩ := List.mem_map.mp hk
    exact dp_kL l
  simp [kLs, NestedKey.depth]
  omega
theorem dp_kSs (ss : List Str) : (kSs ss).depth ≤ 1 := by
  have : NestedKey.depthAll (ss.map .text) ≤ 0 := dpa_le fun k hk => by
    obtain ⟨l, _, rfl⟩ := List.mem_map.mp hk
    simp [NestedKey.depth]
  simp [kSs, NestedKey.depth]
  omega
theorem dp_kPa (ab : List Str) (ls : List Lay) : NestedKey.depthAll [kSs ab, kLs ls] ≤ 8 := by
  have h1 := dp_kSs ab
  have h2 := dp_kLs ls
  simp only [NestedKey.depthAll]
  omega
theorem dp_kP (ab : List Str) (ls : List Lay) : (kP ab ls).depth ≤ 8 := by
  have h1 := dp_kSs ab
  have h2 := dp_kLs ls
  simp only [kP, NestedKey.depth, NestedKey.depthAll]
  omega
theorem dp_kW (w : Wd) : (kW w).depth ≤ 1 := by
  have : NestedKey.depthAll (w.map .num) ≤ 0 := dpa_le fun k hk => by
    obtain ⟨l, _, rfl⟩ := List.mem_map.mp hk
    simp [NestedKey.depth]
  simp [kW, NestedKey.depth]
  omega
theorem dp_kWs (ws : List Wd) : NestedKey.depthAll (ws.map kW) ≤ 8 := dpa_le fun k hk => by
  obtain ⟨l, _, rfl⟩ := List.mem_map.mp hk
  have := dp_kW l
  omega
theorem mid_len {ls : List Lay} {s : Sl} {x : Nat × List Lay} (h : midM ls s = some x) : x.2.length ≤ x.1 ∧ x.1 ≤ ls.length := by
  unfold midM at h
  split at h
  · simp only [Option.map_eq_some_iff] at h
    obtain ⟨a, h, rfl⟩ := h
    have := if_some h
    subst this
    exact ⟨Nat.le_refl _, by simp only [List.length_cons]; omega⟩
  · simp only [Option.map_eq_some_iff] at h
    obtain ⟨a, h, rfl⟩ := h
    have := if_some h
    subst this
    exact ⟨Nat.zero_le _, by simp only [List.length_cons]; omega⟩
  · simp only [Option.map_eq_some_iff] at h
    obtain ⟨a, h, rfl⟩ := h
    have := if_some h
    subst this
    exact ⟨Nat.le_refl _, by simp only [List.length_cons]; omega⟩
  · cases h
/-- only a twine makes it longer -/
theorem slid_len1 {n : Nat} {ls ls' : List Lay} {s : Sl} (h : slid n ls s = some ls') (e : ntw s = true) : ls'.length ≤ ls.length := by
  rw [slid_mid n ls s e] at h
  obtain ⟨x, h1, rfl⟩ := Option.map_eq_some_iff.mp h
  obtain ⟨m1, m2⟩ := mid_len h1
  simp only [List.length_append, List.length_take, List.length_drop] at m2 ⊢
  omega
theorem slid_len {n : Nat} {ls ls' : List Lay} {s : Sl} (h : slid n ls s = some ls') : ls'.length ≤ ls.length + 2 := by
  cases e : ntw s with
  | true => have := slid_len1 h e; omega
  | false =>
    cases s with
    | turn i l => cases e
    | pair i => cases e
    | three i => cases e
    | twine i p o =>
      simp only [slid] at h
      have := if_some h
      subst this
      simp only [List.length_append, List.length_take, List.length_drop, List.length_cons]
      omega
theorem mid_pos {ls : List Lay} {s : Sl} {x : Nat × List Lay} (h : midM ls s = some x) : ls ≠ [] := fun e => by subst e; unfold midM at h; cases h
theorem slid_at {n : Nat} {ls ls' : List Lay} {s : Sl} (h : slid n ls s = some ls') (e : ntw s = true) : atS s < ls.length := by
  rw [slid_mid n ls s e] at h
  obtain ⟨x, h1, rfl⟩ := Option.map_eq_some_iff.mp h
  have := mid_pos h1
  apply Nat.lt_of_not_le
  intro q
  exact this (List.drop_eq_nil_of_le q)
section
variable {X : Cx} {d : Addr} {es : Array DictEntry} {n : Nat}
theorem ix_kd (D : KDict X.K X.w d es n) : IxR X (fun x y H Q => ∃ (z : Str) (u0 : Value) (v0 : V), x = .ref d ∧ y = .str z ∧ PySem.W.nsIn X.K d z = some (some u0) ∧ RelV v0 u0 ∧ Q v0 H) := by
  intro value slice pins s σ H x y v u Q I rx ry h hs
  have h1 := op_item_kd D pins s σ H x y v u Q I rx ry h
  obtain ⟨z, u0, v0, rfl, rfl, e, r, q⟩ := h
  cases rx
  exact tail_any (kd_type D I) (PySem.slot_dict_getitem.lookup) h1 hs
end
section
variable {P : Program} {w : World} {K : PySem.W.Frag} {mg : Str → Option Value} {base : Heap}
/-! ### braid_back -/
theorem ed_SIDES {X : Cx} {C : Ct} {e : Expr} {p pos : Pos} (left : Bool) (T : Txt X.w X.K X.mg) (h : ED X C e (.text (sdS left))) (hg : Gl X "SIDES" := by rfl) (hs : PlainIx e := by intro _ _; rfl) : ED X C (.Subscript (.Name "SIDES" p) e pos) (.text (sdS (!left))) := by
  obtain ⟨es, n, D⟩ := T.sidesD
  refine ex_ix (ix_kd D) (ED.ex (ed_glob (o := .r (He.ga X.K "SIDES")) (v := .ref (He.ga X.K "SIDES")) hg T.sides rfl (fun _ => rfl)) (h.ex ?_)) hs
  intro σ H x y A r1 r2 Q q
  cases Dv.str_inv r2
  cases (show x = V.ref _ from r1)
  cases left with
  | true =>
    obtain ⟨u, h1, h2⟩ := T.sidesL
    exact ⟨_, u, _, rfl, rfl, h1, h2, q _ _ _ H ⟨rfl, rfl⟩ (Tk.refl H) A (Dv.text _)⟩
  | false =>
    obtain ⟨u, h1, h2⟩ := T.sidesR
    exact ⟨_, u, _, rfl, rfl, h1, h2, q _ _ _ H ⟨rfl, rfl⟩ (Tk.refl H) A (Dv.text _)⟩
theorem sc_back : FnScope ["picture", "slide", "word", "at", "place", "step"] ["picture", "slide"] (defScope (top 28)) := ⟨rfl, rfl, rfl, by decide +kernel, rfl, by decide +kernel, by decide +kernel⟩
def G_back : List Ob → Ob → Prop := fun os o => ∃ (ab : List Str) (ls : List Lay) (s : Sl), ntw s = true ∧ atS s < ls.length ∧ os = [.d (kP ab ls), .d (kSl s)] ∧ o = .d (kSl (bak ls s))
theorem kn_back (T : Txt w K mg) : Kn CX0 P w K mg base "braid_back" ["picture", "slide"] 1 (spG w K (RD G_back)) := by
  refine kn_mk (T.d 16 _ rfl) (T.g 16 _ rfl) sc_back (fun fd F => F.bindsN fun _ _ _ _ _ _ us hl => match us, hl with | [_, _], _ => rfl) ?_ ?_
  · rintro _ _ _ ⟨_, _, ⟨_, _, _, _, _, rfl, _⟩, _⟩; rfl
  · rintro cdv A outer s H E _ _ _ hr ⟨rfl, _, ⟨ab, ls, sl, hn, ha, rfl, rfl⟩, rfl⟩
    cases sl with
    | turn i left =>
      refine so_asgG (ED.ex (ed_to 2 (ks := [.text "turn", .num i, .text (sdS left)]) (ed_var 1) ed_int) (go_tup (ks := [.text "turn", .num i]) rfl (gos_cons (go_name 2 (gos_cons (go_name 3 (gos_nil ?_) sc_back.nd)) sc_back.nd))))
      refine so_ifT (EB.cast (eb_eqS (ed_var 2) ed_str) (by decide)) ?_
      exact so_ret (ED.ex (ed_tk (ek (k := .text "turn") ed_str (ek (k := .num i) (ed_var 3) (ek (k := .text (sdS (!left))) (ed_SIDES left T (ed_ix (k := .text (sdS left)) (ed_var 1) ed_int rfl)) ek0)))) ⟨rfl, rfl⟩)
    | pair i =>
      have ha : i < ls.length := ha
      have hi : ls[i]? = some ls[i] := List.getElem?_eq_getElem ha
      refine so_asgG (ED.ex (ed_to 2 (ks := [.text "pair", .num i]) (ed_var 1) ed_int) (go_tup (ks := [.text "pair", .num i]) rfl (gos_cons (go_name 2 (gos_cons (go_name 3 (gos_nil ?_) sc_back.nd)) sc_back.nd))))
      refine so_ifF (EB.cast (eb_eqS (ed_var 2) ed_str) (by decide)) ?_
      refine so_ifT (EB.cast (eb_eqS (ed_var 2) ed_str) (by decide)) ?_
      refine so_asgG (ED.ex (ed_ix (k := kL ls[i]) (ed_ix (k := kLs ls) (ed_var 0) ed_int rfl) (ed_var 3) (atI_nat (by rw [List.getElem?_map, hi]; rfl))) (go_tup (ks := [.num ls[i].1, kS ls[i].2]) rfl (gos_cons (go_name 4 (gos_cons (go_name 5 (gos_nil ?_) sc_back.nd)) sc_back.nd))))
      refine so_ret (ED.ex (ed_tk (ek (k := .text "twine") ed_str (ek (k := .num i) (ed_var 3) (ek (k := .num ls[i].1) (ed_var 4) (ek (k := .text (stS ls[i].2)) (ed_ix (ks := [.text (stS ls[i].2)]) (ed_var 5) ed_int rfl) ek0))))) ⟨?_, rfl⟩)
      show Ob.d _ = Ob.d (kSl (match ls[i]? with | some l => .twine i l.1 l.2 | none => .pair i))
      rw [hi]
      rfl
    | three i =>
      refine so_asgG (ED.ex (ed_to 2 (ks := [.text "three", .num i]) (ed_var 1) ed_int) (go_tup (ks := [.text "three", .num i]) rfl (gos_cons (go_name 2 (gos_cons (go_name 3 (gos_nil ?_) sc_back.nd)) sc_back.nd))))
      refine so_ifF (EB.cast (eb_eqS (ed_var 2) ed_str) (by decide)) ?_
      refine so_ifF (EB.cast (eb_eqS (ed_var 2) ed_str) (by decide)) ?_
      exact so_ret (ED.ex (ed_var 1) ⟨rfl, rfl⟩)
    | twine i p o => cases hn
/-! ### braid_walks -/
theorem sc_bwalks : FnScope ["kit", "one", "other", "thing", "slide"] ["kit", "one", "other", "thing"] (defScope (top 29)) := ⟨rfl, rfl, rfl, by decide +kernel, rfl, by decide +kernel, by decide +kernel⟩
def G_bwalks : List Ob → Ob → Prop := fun os o => ∃ (kit : NestedKey) (ab : List Str) (ls ls2 : List Lay) (ss : List Sl), walk ab.length ls ss = some ls2 ∧ ls.length + 2 * ss.length ≤ 200 ∧ os = [.d kit, .d (kP ab ls), .d (kP ab ls2), .d (kPp ss)] ∧ o = .bl true
theorem kn_bwalks (T : Txt w K mg) : Kn CX0 P w K mg base "braid_walks" ["kit", "one", "other", "thing"] 4 (spG w K (RD G_bwalks)) := by
  refine kn_mk (T.d 17 _ rfl) (T.g 17 _ rfl) sc_bwalks (fun fd F => F.bindsN fun _ _ _ _ _ _ us hl => match us, hl with | [_, _, _, _], _ => rfl) ?_ ?_
  · rintro _ _ _ ⟨_, _, ⟨_, _, _, _, _, _, _, rfl, _⟩, _⟩; rfl
  · rintro cdv A outer s H E _ _ _ hr ⟨rfl, _, ⟨kit, ab, ls, ls2, ss, hw, hz, rfl, rfl⟩, rfl⟩
    refine so_ifF (eb_not (k := true) (et_val (ED.ex (ed_isi (T := "tuple") (k := kPp ss) (ed_var 3) rfl (by decide +kernel) T.z_tuple rfl (by decide) (by decide) T.z_isinstance) ⟨_, rfl, rfl, rfl⟩))) ?_
    refine so_forT PassesOwn.never rfl (ks := ss.map kSl) (ed_var 3) (fun i G M => ∃ l g4, walk ab.length l (ss.drop i) = some ls2 ∧ l.length ≤ ls.length + 2 * i ∧ G = [some (.d kit), some (.d (kP ab l)), some (.d (kP ab ls2)), some (.d (kPp ss)), g4] ∧ M = []) ⟨ls, none, hw, by omega, rfl, rfl⟩ ?_ ?_
    · rintro i kk _ _ hkk ⟨l, g4, hw, hz2, rfl, rfl⟩
      rw [List.getElem?_map] at hkk
      obtain ⟨sl, hx, rfl⟩ := Option.map_eq_some_iff.mp hkk
      have hi : i < ss.length := (List.getElem?_eq_some_iff.mp hx).1
      have e1 : ss.drop i = sl :: ss.drop (i + 1) := by
        rw [List.drop_eq_getElem_cons hi, (List.getElem?_eq_some_iff.mp hx).2]
      rw [e1, walk_cons] at hw
      obtain ⟨l', h1, h2⟩ := Option.bind_eq_some_iff.mp hw
      refine go_name 4 ?_ sc_bwalks.nd
      refine so_try (cn := cnN K) T.nx rfl rfl takes0 rfl fun W0 pn xe tk => ?_
      refine so_asg 1 (ED.ex (ed_callX (o := .d (kP ab l')) (kn_bslid T) hr passL (eds_cons (ed_var 0) (eds_cons (ed_var 1) (eds_cons (ed_var 4) eds_nil))) ⟨kit, ab, l, sl, by omega, rfl, by rw [h1]; rfl⟩) ?_) sc_bwalks.nd
      refine so_nil (so_nil ⟨l', _, h2, ?_, rfl, rfl⟩)
      have := slid_len h1
      omega
    · rintro _ _ ⟨l, g4, hw, hz2, rfl, rfl⟩
      rw [List.length_map, List.drop_length] at hw
      cases hw
      exact so_ret (ED.ex (ED.cast (ed_eqT (ks := [kSs ab, kLs ls2]) (ls := [kSs ab, kLs ls2]) (hu64 hr) (ed_var 1) (ed_var 2) (dp_kPa _ _)) (congrArg Ob.bl (decide_eq_true rfl))) ⟨rfl, rfl⟩)
end
end Brd
set_option maxHeartbeats 1000000
namespace Brd
open PySem PySem.Spec PyProof.Rows L2 BM
section
variable {P : Program} {w : World} {K : PySem.W.Frag} {mg : Str → Option Value} {base : Heap}
/-! ### slides_at -/
def four (i : Nat) : List Sl := [.turn i true, .turn i false, .pair i, .three i]
def kSlP (ab : List Str) (x : Sl × List Lay) : NestedKey := .tup [kSl x.1, kP ab x.2]
theorem four_ntw {i k : Nat} {s : Sl} (h : (four i)[k]? = some s) : ntw s = true := by
  have := List.mem_of_getElem? h
  simp only [four, List.mem_cons, List.not_mem_nil, or_false] at this
  rcases this with rfl | rfl | rfl | rfl <;> rfl
theorem sc_slat : FnScope ["kit", "picture", "found", "at", "slide"] ["kit", "picture"] (defScope (top 30)) := ⟨rfl, rfl, rfl, by decide +kernel, rfl, by decide +kernel, by decide +kernel⟩
def R_slat : List Ob → Ms → Pk → Prop := fun os M post => ∃ (kit : NestedKey) (ab : List Str) (ls : List Lay), ls.length ≤ 100 ∧ os = [.d kit, .d (kP ab ls)] ∧ M = [] ∧ post = fun o' M' => ∃ (l : Addr) (xs : List (Sl × List Lay)), o' = .r l ∧ M' = [(l, Mo.l (xs.map fun x => .d (kSlP ab x)))] ∧ (∀ x ∈ xs, ntw x.1 = true ∧ slid ab.length ls x.1 = some x.2) ∧ xs.length ≤ 4 * ls.length
theorem kn_slat (T : Txt w K mg) : Kn CX0 P w K mg base "slides_at" ["kit", "picture"] 4 (spG w K R_slat) := by
  refine kn_mk (T.d 18 _ rfl) (T.g 18 _ rfl) sc_slat (fun fd F => F.bindsN fun _ _ _ _ _ _ us hl => match us, hl with | [_, _], _ => rfl) ?_ ?_
  · rintro _ _ _ ⟨_, _, _, _, rfl, _⟩; rfl
  · rintro cdv A outer s H E _ _ _ hr ⟨kit, ab, ls, hz, rfl, rfl, rfl⟩
    refine so_asg 2 (ex_lst (ea_nil ⟨Nat.zero_le _, fun p => ?_⟩)) sc_slat.nd
    refine so_forR (n := 0) PassesOwn.never rfl T.z_range (ED.ex (ed_len (ks := ls.map kL) (ed_ix (k := kLs ls) (ed_var 1) ed_int rfl) T.z_len) ⟨_, rfl, by omega, by rw [List.length_map]; omega, fun i G M => ∃ g3 g4 xs, (∀ x ∈ xs, ntw x.1 = true ∧ slid ab.length ls x.1 = some x.2) ∧ xs.length ≤ 4 * i ∧ G = [some (.d kit), some (.d (kP ab ls)), some (.r p), g3, g4] ∧ M = [(p, Mo.l (xs.map fun x => .d (kSlP ab x)))], ⟨none, none, [], (fun x hx => absurd hx List.not_mem_nil), Nat.zero_le _, rfl, rfl⟩, ?_, ?_⟩)
    · rintro i _ _ hi ⟨g3, g4, xs, hxs, hl, rfl, rfl⟩
      rw [List.length_map] at hi
      refine go_name 3 ?_ sc_slat.nd
      refine so_forT PassesOwn.never rfl (ks := (four i).map kSl) (ed_tk (ek (k := kSl (.turn i true)) (ed_tk (ek (k := .text "turn") ed_str (ek (k := .num i) (ed_var 3) (ek (k := .text "left") ed_str ek0)))) (ek (k := kSl (.turn i false)) (ed_tk (ek (k := .text "turn") ed_str (ek (k := .num i) (ed_var 3) (ek (k := .text "right") ed_str ek0)))) (ek (k := kSl (.pair i)) (ed_tk (ek (k := .text "pair") ed_str (ek (k := .num i) (ed_var 3) ek0))) (ek (k := kSl (.three i)) (ed_tk (ek (k := .text "three") ed_str (ek (k := .num i) (ed_var 3) ek0))) ek0)))) (show 4 ≤ 1000 by decide)) (fun k G M => ∃ g4 xs, (∀ x ∈ xs, ntw x.1 = true ∧ slid ab.length ls x.1 = some x.2) ∧ xs.length ≤ 4 * i + k ∧ G = [some (.d kit), some (.d (kP ab ls)), some (.r p), some (.num i), g4] ∧ M = [(p, Mo.l (xs.map fun x => .d (kSlP ab x)))]) ⟨g4, xs, hxs, hl, rfl, rfl⟩ ?_ ?_
      · rintro k kk _ _ hkk ⟨g4, xs, hxs, hl, rfl, rfl⟩
        rw [List.getElem?_map] at hkk
        obtain ⟨sl, hx, rfl⟩ := Option.map_eq_some_iff.mp hkk
        have hk : k < 4 := (List.getElem?_eq_some_iff.mp hx).1
        have hn := four_ntw hx
        refine go_name 4 ?_ sc_slat.nd
        refine so_try (cn := cnN K) T.nx rfl rfl takes0 rfl fun W0 pn xe tk => ?_
        cases hs : slid ab.length ls sl with
        | some l' =>
          refine so_expr (ex_append (ED.ex (ed_var 2) ⟨p, 0, _, rfl, rfl, ea_cons (ED.ex (ed_tk (ek (k := kSl sl) (ed_var 4) (ek (k := kP ab l') (ed_callX (kn_bslid T) hr passL (eds_cons (ed_var 0) (eds_cons (ed_var 1) (eds_cons (ed_var 4) eds_nil))) ⟨kit, ab, ls, sl, by omega, rfl, by rw [hs]; rfl⟩) ek0))) (ea_nil ⟨0, _, _, rfl, rfl, by rw [List.length_map]; have := line; omega, ?_⟩))⟩))
          refine so_nil (so_nil ⟨_, xs ++ [(sl, l')], fun x hx => ?_, by rw [List.length_append]; simp only [List.length_cons, List.length_nil]; omega, rfl, ?_⟩)
          · rcases List.mem_append.mp hx with hx | hx
            · exact hxs x hx
            · simp only [List.mem_singleton] at hx
              subst hx
              exact ⟨hn, hs⟩
          · rw [List.map_append]; rfl
        | none =>
          refine so_exprR (er_append (j := 0) (ed_var 2) rfl (era_here (er_tup (era_there (ed_var 4) (era_here (er_call (kn_bslid T) hr tk (eds_cons (ed_var 0) (eds_cons (ed_var 1) (eds_cons (ed_var 4) eds_nil))) ⟨kit, ab, ls, sl, by omega, rfl, by rw [hs]; rfl⟩)))))) fun a oe pn' => so_cont ⟨_, xs, hxs, by omega, rfl, rfl⟩
      · rintro _ _ ⟨g4, xs, hxs, hl, rfl, rfl⟩
        exact so_nil ⟨_, _, xs, hxs, by simp only [four, List.length_map, List.length_cons, List.length_nil] at hl; omega, rfl, rfl⟩
    · rintro _ _ ⟨g3, g4, xs, hxs, hl, rfl, rfl⟩
      exact so_ret (ED.ex (ed_var 2) ⟨p, xs, rfl, rfl, hxs, by rw [Int.toNat_natCast, List.length_map] at hl; exact hl⟩)
end
end Brd
set_option maxHeartbeats 3000000
namespace Brd
open PySem PySem.Spec PyProof.Rows L2 BM
theorem le1 : 1 ≤ sizeLine := by decide
theorem kL_inj {l m : Lay} (h : kL l = kL m) : l = m := by
  obtain ⟨a, b⟩ := l
  obtain ⟨c, d⟩ := m
  injection h with h
  injection h with h1 h
  injection h with h2 _
  injection h1 with h1
  injection h2 with h2
  injection h2 with h2 _
  injection h2 with h2
  have e1 : b = d := st_inj h2
  have e2 : a = c := Int.ofNat_inj.mp h1
  rw [e1, e2]
theorem map_inj {α β : Type} {f : α → β} (hf : ∀ a b, f a = f b → a = b) : ∀ {xs ys : List α}, xs.map f = ys.map f → xs = ys
  | [], [], _ => rfl
  | [], _ :: _, h => by cases h
  | _ :: _, [], h => by cases h
  | x :: xs, y :: ys, h => by
    injection h with h1 h2
    rw [hf _ _ h1, map_inj hf h2]
theorem kP_inj {ab ab' : List Str} {l m : List Lay} (h : kP ab l = kP ab' m) : l = m := by
  injection h with h
  injection h with _ h
  injection h with h _
  injection h with h
  exact map_inj (fun a b => kL_inj) h
/-- how r stands among es: a way there and a way back -/
def WayE (ab : List Str) (ls : List Lay) (t : Nat) (r : List Lay) (v : NestedKey) : Prop := ∃ th bk, v = .tup [kPp th, kPp bk] ∧ walk ab.length ls th = some r ∧ walk ab.length r bk = some ls ∧ th.length ≤ t ∧ bk.length ≤ t ∧ Valid ab.length r ∧ r.length ≤ ls.length
theorem WayE.le {ab : List Str} {ls : List Lay} {t u : Nat} {r : List Lay} {v : NestedKey} (h : WayE ab ls t r v) (e : t ≤ u) : WayE ab ls u r v := by
  obtain ⟨th, bk, h1, h2, h3, h4, h5, h6, h7⟩ := h
  exact ⟨th, bk, h1, h2, h3, by omega, by omega, h6, h7⟩
def NearE (ab : List Str) (ls : List Lay) (t : Nat) (es : List (NestedKey × NestedKey)) : Prop := ∀ e ∈ es, ∃ r, e.1 = kP ab r ∧ WayE ab ls t r e.2
def RimE (ab : List Str) (ls : List Lay) (t : Nat) (es : List (NestedKey × NestedKey)) (rs : List (List Lay)) : Prop := ∀ r ∈ rs, ∃ v, (kP ab r, v) ∈ es ∧ WayE ab ls t r v
theorem RimE.more {ab : List Str} {ls : List Lay} {t : Nat} {es : List (NestedKey × NestedKey)} {rs : List (List Lay)} (h : RimE ab ls t es rs) (fs : List (NestedKey × NestedKey)) : RimE ab ls t (es ++ fs) rs := fun r hr => by
  obtain ⟨v, h1, h2⟩ := h r hr
  exact ⟨v, List.mem_append_left _ h1, h2⟩
theorem ntw_ne {s : Sl} (h : ntw s = true) : ∀ i p o, s ≠ .twine i p o := fun i p o e => by subst e; cases h
theorem WayE.step {ab : List Str} {ls r r' : List Lay} {t : Nat} {th bk : List Sl} {s : Sl} (h1 : walk ab.length ls th = some r) (h2 : walk ab.length r bk = some ls) (h3 : th.length ≤ t) (h4 : bk.length ≤ t) (h5 : Valid ab.length r) (h6 : r.length ≤ ls.length) (hn : ntw s = true) (hs : slid ab.length r s = some r') : WayE ab ls (t + 1) r' (.tup [kPp (th ++ [s]), kPp (bak r s :: bk)]) := by
  refine ⟨_, _, rfl, walk_app h1 ?_, ?_, by rw [List.length_append]; simp only [List.length_cons, List.length_nil]; omega, by rw [List.length_cons]; omega, (slid_ok hs h5).1, Nat.le_trans (slid_len1 hs hn) h6⟩
  · rw [walk_cons, hs]; rfl
  · rw [walk_cons, slid_back hs h5 (ntw_ne hn)]
    exact h2
section
variable {P : Program} {w : World} {K : PySem.W.Frag} {mg : Str → Option Value} {base : Heap}
/-! ### braids_near -/
theorem sc_near : FnScope ["kit", "picture", "found", "rim", "turn", "further", "here", "there", "back", "slide", "behind"] ["kit", "picture"] (defScope (top 31)) := ⟨rfl, rfl, rfl, by decide +kernel, rfl, by decide +kernel, by decide +kernel⟩
def R_near : List Ob → Ms → Pk → Prop := fun os M post => ∃ (kit : NestedKey) (ab : List Str) (ls : List Lay), Valid ab.length ls ∧ ls.length ≤ 18 ∧ os = [.d kit, .d (kP ab ls)] ∧ M = [] ∧ post = fun o' M' => ∃ (l : Addr) (ob : Obj) (es : List (NestedKey × NestedKey)), o' = .r l ∧ M' = [(l, Mo.dct ob es)] ∧ NearE ab ls 2 es
def rimO (ab : List Str) (rs : List (List Lay)) : Mo := Mo.l (rs.map fun r => .d (kP ab r))
theorem kn_near (T : Txt w K mg) : Kn CX0 P w K mg base "braids_near" ["kit", "picture"] 5 (spG w K R_near) := by
  refine kn_mk (T.d 19 _ rfl) (T.g 19 _ rfl) sc_near (fun fd F => F.bindsN fun _ _ _ _ _ _ us hl => match us, hl with | [_, _], _ => rfl) ?_ ?_
  · rintro _ _ _ ⟨_, _, _, _, _, rfl, _⟩; rfl
  · rintro cdv A outer s H E _ _ _ hr ⟨kit, ab, ls, hv, hz, rfl, rfl, rfl⟩
    refine so_asg 2 (ex_dct1 (ks := [kSs ab, kLs ls]) (kv := .tup [kPp [], kPp []]) (hu64 hr) (fun M => ed_var 1) (fun M => ed_tk (ek (k := kPp []) (ed_tk ek0 (Nat.zero_le _)) (ek (k := kPp []) (ed_tk ek0 (Nat.zero_le _)) ek0))) (dp_kP ab ls) fun d ob0 => ?_) sc_near.nd
    refine so_asg 3 (ex_lst (ea_cons ((ed_var 1).ex (ea_nil ⟨le1, fun rl0 => ?_⟩)))) sc_near.nd
    have w0 : WayE ab ls 0 ls (.tup [kPp [], kPp []]) := ⟨[], [], rfl, rfl, rfl, Nat.le_refl _, Nat.le_refl _, hv, Nat.le_refl _⟩
    obtain ⟨tk, hmost⟩ := T.most
    refine so_forR (n := 0) PassesOwn.never rfl T.z_range (ED.ex (ed_glob (o := .num 2) (v := .int 2) rfl hmost ⟨tk, rfl⟩ (fun _ => Dv.num 2)) ⟨2, rfl, by decide, by decide, fun i G M => ∃ rl ob es rims g4 g5 g6 g7 g8 g9 g10, i ≤ 2 ∧ NearE ab ls i es ∧ RimE ab ls i es rims ∧ es.length ≤ 100 ^ i ∧ rims.length ≤ 100 ^ i ∧ G = [some (.d kit), some (.d (kP ab ls)), some (.r d), some (.r rl), g4, g5, g6, g7, g8, g9, g10] ∧ M = [(d, Mo.dct ob es), (rl, rimO ab rims)], ⟨rl0, ob0, _, [ls], none, none, none, none, none, none, none, by omega, fun e he => by
        rw [List.mem_singleton] at he
        subst he
        exact ⟨ls, rfl, w0⟩, fun r hr' => by
        rw [List.mem_singleton] at hr'
        subst hr'
        exact ⟨_, List.mem_singleton.mpr rfl, w0⟩, Nat.le_refl _, Nat.le_refl _, rfl, rfl⟩, ?_, ?_⟩)
    · rintro i _ _ hi ⟨rl, ob, es, rims, g4, g5, g6, g7, g8, g9, g10, hi2, hne, hri, hes, hrs, rfl, rfl⟩
      have hi1 : i < 2 := by omega
      obtain ⟨N, hN⟩ : ∃ N, N = 100 ^ i := ⟨_, rfl⟩
      have hN1 : N ≤ 100 := by rcases (show i = 0 ∨ i = 1 by omega) with rfl | rfl <;> (rw [hN]; decide)
      have hN2 : 100 ^ (i + 1) = 100 * N := by rw [hN, Nat.pow_succ, Nat.mul_comm]
      rw [← hN] at hes hrs
      have hline := line
      refine go_name 4 ?_ sc_near.nd
      refine so_asg 5 (ex_lst (ea_nil ⟨Nat.zero_le _, fun fl => ?_⟩)) sc_near.nd
      refine so_forL PassesOwn.never rfl (ED.ex (ed_var 3) ⟨rl, rims.map fun r => .d (kP ab r), rfl, fun i2 G M => ∃ ob es fur g6 g7 g8 g9 g10, NearE ab ls (i + 1) es ∧ RimE ab ls i es rims ∧ RimE ab ls (i + 1) es fur ∧ es.length ≤ N + 72 * i2 ∧ fur.length ≤ 72 * i2 ∧ G = [some (.d kit), some (.d (kP ab ls)), some (.r d), some (.r rl), some (.num i), some (.r fl), g6, g7, g8, g9, g10] ∧ M = [(d, Mo.dct ob es), (rl, rimO ab rims), (fl, rimO ab fur)], ⟨ob, es, [], g6, g7, g8, g9, g10, fun e he => ?_, hri, fun r hr' => absurd hr' List.not_mem_nil, by omega, Nat.zero_le _, rfl, rfl⟩, fun i2 G M ⟨_, _, _, _, _, _, _, _, _, _, _, _, _, _, e⟩ => ⟨1, by rw [e]; rfl⟩, ?_, ?_⟩)
      · obtain ⟨r, h1, h2⟩ := hne e he
        exact ⟨r, h1, h2.le (by omega)⟩
      · rintro i2 ob2 _ _ hob ⟨ob, es, fur, g6, g7, g8, g9, g10, hne, hri, hfu, hes, hfl, rfl, rfl⟩
        rw [List.getElem?_map] at hob
        obtain ⟨r, hr0, rfl⟩ := Option.map_eq_some_iff.mp hob
        have hi2 : i2 < rims.length := (List.getElem?_eq_some_iff.mp hr0).1
        obtain ⟨v, hm, th, bk, rfl, p1, p2, p3, p4, p5, p6⟩ := hri r (List.mem_of_getElem? hr0)
        refine go_name 6 ?_ sc_near.nd
        refine so_asgG (ED.ex (ed_ixD (j := 0) (ks := [kSs ab, kLs r]) (v := .tup [kPp th, kPp bk]) (hu64 hr) (ed_var 2) (ed_var 6) rfl (dp_kP ab r) hm) (go_tup (ks := [kPp th, kPp bk]) rfl (gos_cons (go_name 7 (gos_cons (go_name 8 (gos_nil ?_) sc_near.nd)) sc_near.nd))))
        refine so_forL PassesOwn.never rfl (ex_call (kn_slat T) hr pass0 (EDs.ex (eds_cons (ed_var 0) (eds_cons (ed_var 6) eds_nil)) ⟨_, ⟨kit, ab, r, by omega, rfl, rfl, rfl⟩, fun o' Mn ⟨sl, xs, e1, e2, hxs, hxl⟩ => ⟨sl, xs.map fun x => .d (kSlP ab x), e1, fun k G M => ∃ ob es fur g9 g10, NearE ab ls (i + 1) es ∧ RimE ab ls i es rims ∧ RimE ab ls (i + 1) es fur ∧ es.length ≤ N + 72 * i2 + k ∧ fur.length ≤ 72 * i2 + k ∧ G = [some (.d kit), some (.d (kP ab ls)), some (.r d), some (.r rl), some (.num i), some (.r fl), some (.d (kP ab r)), some (.d (kPp th)), some (.d (kPp bk)), g9, g10] ∧ M = [(d, Mo.dct ob es), (rl, rimO ab rims), (fl, rimO ab fur), (sl, Mo.l (xs.map fun x => .d (kSlP ab x)))], ⟨ob, es, fur, g9, g10, hne, hri, hfu, hes, hfl, rfl, by rw [e2]; rfl⟩, fun k G M ⟨_, _, _, _, _, _, _, _, _, _, _, e⟩ => ⟨3, by rw [e]; rfl⟩, ?_, ?_⟩⟩))
        · rintro k ob3 _ _ hob ⟨ob, es, fur, g9, g10, hne, hri, hfu, hes, hfl, rfl, rfl⟩
          rw [List.getElem?_map] at hob
          obtain ⟨⟨s, r'⟩, hx0, rfl⟩ := Option.map_eq_some_iff.mp hob
          have hk : k < xs.length := (List.getElem?_eq_some_iff.mp hx0).1
          obtain ⟨hn, hs⟩ := hxs _ (List.mem_of_getElem? hx0)
          have hn : ntw s = true := hn
          have hs : slid ab.length r s = some r' := hs
          have hw := WayE.step p1 p2 p3 p4 p5 p6 hn hs
          refine go_tup (ks := [kSl s, kP ab r']) rfl (gos_cons (go_name 9 (gos_cons (go_name 10 (gos_nil ?_) sc_near.nd)) sc_near.nd))
          refine so_ifK (eb_notInD (j := 0) (ks := [kSs ab, kLs r']) (hu64 hr) (ed_var 10) (ed_var 2) rfl (dp_kP ab r')) (fun h => ?_) fun h => so_nil ?_
          · have hno : NestedKey.tup [kSs ab, kLs r'] ∉ es.map (·.1) := by simpa using h
            have hz1 : (th.map kSl).length + [kSl s].length ≤ sizeLine := by rw [List.length_map]; simp only [List.length_cons, List.length_nil]; omega
            have hz2 : [kSl (bak r s)].length + (bk.map kSl).length ≤ sizeLine := by rw [List.length_map]; simp only [List.length_cons, List.length_nil]; omega
            refine so_setD (hu64 hr) (ED.ex (ed_tk (ek (k := .tup (th.map kSl ++ [kSl s])) (ed_catT (ks := th.map kSl) (ls := [kSl s]) (ed_var 7) (ed_tk (ek (ed_var 9) ek0)) hz1) (ek (k := .tup ([kSl (bak r s)] ++ bk.map kSl)) (ed_catT (ks := [kSl (bak r s)]) (ls := bk.map kSl) (ed_tk (ek (ed_call (kn_back T) (hr.mono (by omega)) pass0 (eds_cons (ed_var 6) (eds_cons (ed_var 9) eds_nil)) ⟨ab, r, s, hn, slid_at hs hn, rfl, rfl⟩) ek0)) (ed_var 8) hz2) ek0))) (ED.ex (ed_var 2) (ED.ex (ed_var 10) ⟨_, d, 0, ob, es, [kSs ab, kLs r'], rfl, rfl, rfl, rfl, dp_kP ab r', hno, by omega, fun ob' => ?_⟩)))
            refine so_expr (ex_append (ED.ex (ed_var 5) ⟨fl, 2, _, rfl, rfl, ea_cons (ED.ex (ed_var 10) (ea_nil ⟨2, _, _, rfl, rfl, by rw [List.length_map]; omega, ?_⟩))⟩))
            have ek9 : NestedKey.tup [kPp (th ++ [s]), kPp (bak r s :: bk)] = .tup [.tup (th.map kSl ++ [kSl s]), .tup ([kSl (bak r s)] ++ bk.map kSl)] := by
              unfold kPp
              rw [List.map_append]
              rfl
            rw [ek9] at hw
            have eM : Mo.l ((fur.map fun r => .d (kP ab r)) ++ [.d (kP ab r')]) = rimO ab (fur ++ [r']) := by
              unfold rimO
              rw [List.map_append]
              rfl
            refine so_nil (so_nil ⟨ob', es ++ [(kP ab r', .tup [.tup (th.map kSl ++ [kSl s]), .tup ([kSl (bak r s)] ++ bk.map kSl)])], fur ++ [r'], _, _, fun e he => ?_, hri.more _, fun x hx => ?_, ?_, ?_, rfl, congrArg (fun m => [(d, Mo.dct ob' (es ++ [(kP ab r', NestedKey.tup [NestedKey.tup (th.map kSl ++ [kSl s]), NestedKey.tup ([kSl (bak r s)] ++ bk.map kSl)])])), (rl, rimO ab rims), (fl, m), (sl, Mo.l (xs.map fun x => .d (kSlP ab x)))]) eM⟩)
            · rcases List.mem_append.mp he with he | he
              · exact hne e he
              · rw [List.mem_singleton] at he
                subst he
                exact ⟨r', rfl, hw⟩
            · rcases List.mem_append.mp hx with hx | hx
              · exact hfu.more _ x hx
              · rw [List.mem_singleton] at hx
                subst hx
                exact ⟨_, List.mem_append_right _ (List.mem_singleton.mpr rfl), hw⟩
            · rw [List.length_append]; simp only [List.length_cons, List.length_nil]; omega
            · rw [List.length_append]; simp only [List.length_cons, List.length_nil]; omega
          · exact so_nil ⟨ob, es, fur, _, _, hne, hri, hfu, by omega, by omega, rfl, rfl⟩
        · rintro _ _ ⟨ob, es, fur, g9, g10, hne, hri, hfu, hes, hfl, rfl, rfl⟩
          rw [List.length_map] at hes hfl
          refine so_drop (M := [(d, Mo.dct ob es), (rl, rimO ab rims), (fl, rimO ab fur)]) (so_nil ⟨ob, es, fur, _, _, _, _, _, hne, hri, hfu, by omega, by omega, rfl, rfl⟩) ?_
          exact List.sublist_append_left [(d, Mo.dct ob es), (rl, rimO ab rims), (fl, rimO ab fur)] _
      · rintro _ _ ⟨ob, es, fur, g6, g7, g8, g9, g10, hne, hri, hfu, hes, hfl, rfl, rfl⟩
        rw [List.length_map] at hes hfl
        refine so_asg 3 (ED.ex (ed_var 5) ?_) sc_near.nd
        refine so_drop (M := [(d, Mo.dct ob es), (fl, rimO ab fur)]) (so_nil ⟨fl, ob, es, fur, _, _, _, _, _, _, _, by omega, hne, hfu, by omega, by omega, rfl, rfl⟩) ?_
        exact List.Sublist.cons₂ _ (List.Sublist.cons _ (List.Sublist.refl _))
    · rintro _ _ ⟨rl, ob, es, rims, g4, g5, g6, g7, g8, g9, g10, hi2, hne, hri, hes, hrs, rfl, rfl⟩
      exact so_retS (ED.ex (ed_var 2) ⟨_, List.Sublist.cons₂ _ (List.nil_sublist _), d, ob, es, rfl, rfl, hne⟩)
end
end Brd
set_option maxHeartbeats 2000000
namespace Brd
open PySem PySem.Spec PyProof.Rows L2 BM
theorem txt_inj {xs ys : List Str} (h : xs.map NestedKey.text = ys.map .text) : xs = ys := map_inj (fun a b e => by injection e) h
theorem num_inj {xs ys : List Int} (h : xs.map NestedKey.num = ys.map .num) : xs = ys := map_inj (fun a b e => by injection e) h
section
variable {P : Program} {w : World} {K : PySem.W.Frag} {mg : Str → Option Value} {base : Heap}
/-! ### braid_paper -/
def PaperE (ab : List Str) (l1 l2 : List Lay) (p : NestedKey) : Prop := p = .none ∨ ∃ ss, p = kPp ss ∧ walk ab.length l1 ss = some l2 ∧ ss.length ≤ 4
theorem sc_paper : FnScope ["kit", "one", "other", "there", "here", "picture"] ["kit", "one", "other"] (defScope (top 32)) := ⟨rfl, rfl, rfl, by decide +kernel, rfl, by decide +kernel, by decide +kernel⟩
def R_paper : List Ob → Ms → Pk → Prop := fun os M post => ∃ (kit : NestedKey) (ab : List Str) (l1 l2 : List Lay), Valid ab.length l1 ∧ Valid ab.length l2 ∧ l1.length ≤ 18 ∧ l2.length ≤ 18 ∧ os = [.d kit, .d (kP ab l1), .d (kP ab l2)] ∧ M = [] ∧ post = fun o' M' => M' = [] ∧ ∃ p, o' = .d p ∧ PaperE ab l1 l2 p
theorem kn_paper (T : Txt w K mg) : Kn CX0 P w K mg base "braid_paper" ["kit", "one", "other"] 6 (spG w K R_paper) := by
  refine kn_mk (T.d 20 _ rfl) (T.g 20 _ rfl) sc_paper (fun fd F => F.bindsN fun _ _ _ _ _ _ us hl => match us, hl with | [_, _, _], _ => rfl) ?_ ?_
  · rintro _ _ _ ⟨_, _, _, _, _, _, _, _, rfl, _⟩; rfl
  · rintro cdv A outer s H E _ _ _ hr ⟨kit, ab, l1, l2, v1, v2, z1, z2, rfl, rfl, rfl⟩
    refine so_asg 3 (ex_call (kn_near T) hr pass0 (EDs.ex (eds_cons (ed_var 0) (eds_cons (ed_var 1) eds_nil)) ⟨_, ⟨kit, ab, l1, v1, z1, rfl, rfl, rfl⟩, fun o' Mn hh => ?_⟩)) sc_paper.nd
    obtain ⟨d1, ob1, es1, rfl, rfl, n1⟩ := hh
    refine so_asg 4 (ex_call (kn_near T) hr pass0 (EDs.ex (eds_cons (ed_var 0) (eds_cons (ed_var 2) eds_nil)) ⟨_, ⟨kit, ab, l2, v2, z2, rfl, rfl, rfl⟩, fun o' Mn hh => ?_⟩)) sc_paper.nd
    obtain ⟨d2, ob2, es2, rfl, rfl, n2⟩ := hh
    refine so_forD (j := 0) (l := d1) (ob := ob1) (es := es1) PassesOwn.never rfl (ed_var 3) rfl (fun i G M => ∃ g5, G = [some (.d kit), some (.d (kP ab l1)), some (.d (kP ab l2)), some (.r d1), some (.r d2), g5] ∧ M = [(d1, Mo.dct ob1 es1), (d2, Mo.dct ob2 es2)]) ⟨none, rfl, rfl⟩ (fun i G M ⟨_, _, e⟩ => ⟨0, by rw [e]; rfl⟩) ?_ ?_
    · rintro i k v _ _ hkv ⟨g5, rfl, rfl⟩
      obtain ⟨r, e, hw⟩ := n1 _ (List.mem_of_getElem? hkv)
      have e : k = kP ab r := e
      subst e
      have hm1 := List.mem_of_getElem? hkv
      obtain ⟨th, bk, e, p1, p2, p3, p4, p5, p6⟩ := hw
      have e : v = .tup [kPp th, kPp bk] := e
      subst e
      refine go_name 5 ?_ sc_paper.nd
      refine so_ifK (eb_inD (j := 1) (ks := [kSs ab, kLs r]) (hu64 hr) (ed_var 5) (ed_var 4) rfl (dp_kP ab r)) (fun h => ?_) fun h => so_nil (so_nil ⟨_, rfl, rfl⟩)
      have hin := of_decide_eq_true h
      obtain ⟨⟨k2, v2'⟩, hm2, e2⟩ := List.mem_map.mp hin
      have e2 : k2 = NestedKey.tup [kSs ab, kLs r] := e2
      subst e2
      obtain ⟨r', e3, th2, bk2, e4, q1, q2, q3, q4, q5, q6⟩ := n2 _ hm2
      have e3 := kP_inj (ab := ab) (ab' := ab) (l := r) (m := r') e3
      subst e3
      have e4 : v2' = .tup [kPp th2, kPp bk2] := e4
      subst e4
      have hline := line
      refine so_retS (ED.ex (ed_catT (ks := th.map kSl) (ls := bk2.map kSl) (ed_ix (k := kPp th) (ed_ixD (j := 0) (ks := [kSs ab, kLs r]) (hu64 hr) (ed_var 3) (ed_var 5) rfl (dp_kP ab r) hm1) ed_int rfl) (ed_ix (k := kPp bk2) (ed_ixD (j := 1) (ks := [kSs ab, kLs r]) (hu64 hr) (ed_var 4) (ed_var 5) rfl (dp_kP ab r) hm2) ed_int rfl) (by rw [List.length_map, List.length_map]; omega)) ⟨[], List.nil_sublist _, rfl, _, rfl, .inr ⟨th ++ bk2, ?_, walk_app p1 q2, by rw [List.length_append]; omega⟩⟩)
      unfold kPp
      rw [List.map_append]
    · rintro _ _ ⟨g5, rfl, rfl⟩
      exact so_retS (ED.ex ed_none ⟨[], List.nil_sublist _, rfl, _, rfl, .inl rfl⟩)
/-! ### braids_compared -/
def CmpE (ab : List Str) (l1 l2 : List Lay) (o' : Ob) : Prop := ∃ x y, o' = .tup [.text x, y] ∧ (words ab.length l1 ≠ words ab.length l2 → x = "unlike") ∧ (words ab.length l1 = words ab.length l2 → bel ab l1 = bel ab l2 → x = "alike" ∧ PaperE ab l1 l2 y)
theorem sc_cmp : FnScope ["kit", "one", "other", "words", "others", "place"] ["kit", "one", "other"] (defScope (top 33)) := ⟨rfl, rfl, rfl, by decide +kernel, rfl, by decide +kernel, by decide +kernel⟩
def R_cmp : List Ob → Ms → Pk → Prop := fun os M post => ∃ (kit : NestedKey) (ab : List Str) (l1 l2 : List Lay), ab.length ≤ 100 ∧ Valid ab.length l1 ∧ Valid ab.length l2 ∧ l1.length ≤ 18 ∧ l2.length ≤ 18 ∧ os = [.d kit, .d (kP ab l1), .d (kP ab l2)] ∧ M = [] ∧ post = fun o' M' => M' = [] ∧ CmpE ab l1 l2 o'
theorem dp_txt (ss : List Str) : NestedKey.depthAll (ss.map .text) ≤ 8 := dpa_le fun k hk => by
  obtain ⟨l, _, rfl⟩ := List.mem_map.mp hk
  simp [NestedKey.depth]
theorem dp_num (ss : List Int) : NestedKey.depthAll (ss.map .num) ≤ 8 := dpa_le fun k hk => by
  obtain ⟨l, _, rfl⟩ := List.mem_map.mp hk
  simp [NestedKey.depth]
theorem dec_txt (xs ys : List Str) : decide (xs.map NestedKey.text = ys.map .text) = decide (xs = ys) := by
  rw [Bool.eq_iff_iff, decide_eq_true_iff, decide_eq_true_iff]
  exact ⟨txt_inj, fun e => by rw [e]⟩
theorem dec_num (xs ys : List Int) : decide (xs.map NestedKey.num = ys.map .num) = decide (xs = ys) := by
  rw [Bool.eq_iff_iff, decide_eq_true_iff, decide_eq_true_iff]
  exact ⟨num_inj, fun e => by rw [e]⟩
theorem words_length (n : Nat) (ls : List Lay) : (words n ls).length = n := by unfold words; rw [wordsF_len, ids_len]
theorem kWs_at {ws : List Wd} {i : Nat} (h : i < ws.length) : atI (ws.map kW) (i : Int) = some (kW (ws.getD i [])) := atI_nat (by
  rw [List.getElem?_map, List.getD_eq_getElem?_getD, List.getElem?_eq_getElem h]; rfl)
theorem kn_cmp (T : Txt w K mg) : Kn CX0 P w K mg base "braids_compared" ["kit", "one", "other"] 7 (spG w K R_cmp) := by
  refine kn_mk (T.d 21 _ rfl) (T.g 21 _ rfl) sc_cmp (fun fd F => F.bindsN fun _ _ _ _ _ _ us hl => match us, hl with | [_, _, _], _ => rfl) ?_ ?_
  · rintro _ _ _ ⟨_, _, _, _, _, _, _, _, _, rfl, _⟩; rfl
  · rintro cdv A outer s H E _ _ _ hr ⟨kit, ab, l1, l2, hab, v1, v2, z1, z2, rfl, rfl, rfl⟩
    refine so_ifK (k := !decide (bel ab l1 = bel ab l2)) (EB.cast (eb_w (eb_or (k := false) (l := !decide (bel ab l1 = bel ab l2)) (EB.cast (eb_neT (ks := ab.map .text) (ls := ab.map .text) (hu64 hr) (ed_ix (k := kSs ab) (ed_var 1) ed_int rfl) (ed_ix (k := kSs ab) (ed_var 2) ed_int rfl) (dp_txt ab)) (by rw [decide_eq_true rfl]; rfl)) fun _ => eb_or1 (EB.cast (eb_neT (ks := (bel ab l1).map .text) (ls := (bel ab l2).map .text) (hu64 hr) (ed_call (kn_below T) (hr.mono (by omega)) pass0 (eds_cons (ed_var 0) (eds_cons (ed_var 1) eds_nil)) ⟨kit, ab, l1, hab, v1, rfl, rfl⟩) (ed_call (kn_below T) (hr.mono (by omega)) pass0 (eds_cons (ed_var 0) (eds_cons (ed_var 2) eds_nil)) ⟨kit, ab, l2, hab, v2, rfl, rfl⟩) (dp_txt _)) (congrArg _ (dec_txt _ _))))) (by rw [Bool.false_or])) (fun h => ?_) fun h => so_nil ?_
    · have hne : bel ab l1 ≠ bel ab l2 := by simpa using h
      exact so_ret (ED.ex (ed_tk (ek (k := .text "unlike") ed_str (ek (k := .tup [.text "feet"]) (ed_tk (ek (k := .text "feet") ed_str ek0)) ek0))) ⟨rfl, _, _, rfl, fun _ => rfl, fun _ e => absurd e hne⟩)
    refine so_asg 3 (ED.ex (ed_call (kn_words T) (hr.mono (by omega)) pass0 (eds_cons (ed_var 0) (eds_cons (ed_var 1) eds_nil)) ⟨kit, ab, l1, hab, v1, z1, rfl, rfl⟩) ?_) sc_cmp.nd
    refine so_asg 4 (ED.ex (ed_call (kn_words T) (hr.mono (by omega)) pass0 (eds_cons (ed_var 0) (eds_cons (ed_var 2) eds_nil)) ⟨kit, ab, l2, hab, v2, z2, rfl, rfl⟩) ?_) sc_cmp.nd
    have wl1 : ((words ab.length l1).map kW).length = ab.length := by rw [List.length_map, words_length]
    refine so_forR (n := 0) PassesOwn.never rfl T.z_range (ED.ex (ed_len (ks := (words ab.length l1).map kW) (ed_var 3) T.z_len) ⟨_, rfl, by omega, by rw [wl1]; omega, fun i G M => ∃ g5, (∀ j, j < i → (words ab.length l1).getD j [] = (words ab.length l2).getD j []) ∧ G = [some (.d kit), some (.d (kP ab l1)), some (.d (kP ab l2)), some (.d (kWs (words ab.length l1))), some (.d (kWs (words ab.length l2))), g5] ∧ M = [], ⟨none, fun j hj => absurd hj (Nat.not_lt_zero _), rfl, rfl⟩, ?_, ?_⟩)
    · rintro i _ _ hi ⟨g5, heq, rfl, rfl⟩
      rw [wl1] at hi
      have hi : i < ab.length := by omega
      refine go_name 5 ?_ sc_cmp.nd
      have i1 : i < (words ab.length l1).length := by rw [words_length]; exact hi
      have i2 : i < (words ab.length l2).length := by rw [words_length]; exact hi
      refine so_ifK (EB.cast (eb_neT (ks := ((words ab.length l1).getD i []).map .num) (ls := ((words ab.length l2).getD i []).map .num) (hu64 hr) (ed_ix (k := kW ((words ab.length l1).getD i [])) (ed_var 3) (ed_var 5) (kWs_at i1)) (ed_ix (k := kW ((words ab.length l2).getD i [])) (ed_var 4) (ed_var 5) (kWs_at i2)) (dp_num _)) (congrArg _ (dec_num _ _))) (fun h => ?_) fun h => so_nil ?_
      · have hne : (words ab.length l1).getD i [] ≠ (words ab.length l2).getD i [] := by simpa using h
        exact so_ret (ED.ex (ed_tk (ek (k := .text "unlike") ed_str (ek (ed_tk (ek (k := .text "word") ed_str (ek (k := .num i) (ed_var 5) (ek (k := kW ((words ab.length l1).getD i [])) (ed_ix (ed_var 3) (ed_var 5) (kWs_at i1)) (ek (k := kW ((words ab.length l2).getD i [])) (ed_ix (ed_var 4) (ed_var 5) (kWs_at i2)) ek0))))) ek0))) ⟨rfl, _, _, rfl, fun _ => rfl, fun e _ => absurd (by rw [e]) hne⟩)
      · have he : (words ab.length l1).getD i [] = (words ab.length l2).getD i [] := by simpa using h
        refine so_nil ⟨_, fun j hj => ?_, rfl, rfl⟩
        by_cases e : j = i
        · rw [e]; exact he
        · exact heq j (by omega)
    · rintro _ _ ⟨g5, heq, rfl, rfl⟩
      rw [Int.toNat_natCast, wl1] at heq
      have hw : words ab.length l1 = words ab.length l2 := by
        refine List.ext_getElem? fun j => ?_
        by_cases hj : j < ab.length
        · have := heq j hj
          rw [List.getD_eq_getElem?_getD, List.getD_eq_getElem?_getD, List.getElem?_eq_getElem (by rw [words_length]; exact hj), List.getElem?_eq_getElem (by rw [words_length]; exact hj)] at this
          rw [List.getElem?_eq_getElem (by rw [words_length]; exact hj), List.getElem?_eq_getElem (by rw [words_length]; exact hj)]
          exact congrArg some this
        · rw [List.getElem?_eq_none (by rw [words_length]; omega), List.getElem?_eq_none (by rw [words_length]; omega)]
      refine so_ret (ex_tup (ea_cons (ED.ex ed_str (ea_cons (ex_call (kn_paper T) hr pass0 (EDs.ex (eds_cons (ed_var 0) (eds_cons (ed_var 1) (eds_cons (ed_var 2) eds_nil))) ⟨_, ⟨kit, ab, l1, l2, v1, v2, z1, z2, rfl, rfl, rfl⟩, fun o' Mn hh => ?_⟩))))))
      obtain ⟨rfl, p, rfl, hp⟩ := hh
      exact ea_nil ⟨[.text "alike", p], rfl, le16 (by show 2 ≤ 1000; decide), rfl, _, _, rfl, fun e => absurd hw e, fun _ _ => ⟨rfl, hp⟩⟩
end
end Brd
set_option maxHeartbeats 2000000
namespace Brd
open PySem PySem.Spec PyProof.Rows L2 BM
/-! ### more rules -/
/-- objects of the store forgotten -/
theorem EX.sub {X : Cx} {C : Ct} {e : Expr} {P P' : Pk} (h : EX X C e P) (k : ∀ o M, P o M → ∃ M0 : Ms, List.Sublist M0 M ∧ P' o M0) : EX X C e P' := fun σ H A Q q =>
  h σ H A Q fun o M v H' p t A' r => by
    obtain ⟨M0, hs, p'⟩ := k o M p
    exact q o M0 v H' p' t (A'.sub hs) r
section
variable {w : World} {K : PySem.W.Frag} {C : Ct} {σ : L2.St} {H H' : Hp}
/-- behind a call that had the whole store -/
theorem At.calledM (A : At w K C σ H) {Mn : Ms} (kept : ∀ a x, H a = some x → a ∉ C.M.map (·.1) → H' a = some x) (t : Tk H H') (hm : ∀ p ∈ Mn, p.2.is w K H' p.1) (nd : (Mn.map (·.1)).Nodup) (own : ∀ p ∈ Mn, p.1 ∈ C.M.map (·.1) ∨ H p.1 = none) : At w K { C with M := Mn } σ H' := by
  refine ⟨At.sl_mono t A.sl, hm, nd, fun a o e hw => ?_, fun p hp => ?_, A.tk.trans t⟩
  · refine kept a o (A.kp a o e hw) fun hc => ?_
    obtain ⟨p, hp, rfl⟩ := List.mem_map.mp hc
    rcases A.own p hp with z | z
    · exact hw z
    · rw [z] at e; cases e
  · rcases own p hp with z | z
    · obtain ⟨q, hq, e⟩ := List.mem_map.mp z
      rw [← e]; exact A.own q hq
    · exact A.fresh z
/-- what stood at the entry, and is not to be written -/
theorem At.seqL (A : At w K C σ H) {a : Addr} {xs : List V} (h : SqL K C.H0 a xs) (hw : a ∉ C.W) : SqL K H a xs := by
  rcases h with (h | ⟨o, h⟩) | h
  · exact .inl (.inl (A.kp a _ h hw))
  · exact .inl (.inr ⟨o, A.kp a _ h hw⟩)
  · exact .inr h
end
section
variable {X : Cx} {C : Ct} {e a b c : Expr} {es : List Expr} {P P' : Pk} {o oa ob : Ob} {p pos p2 : Pos} {ks ls : List NestedKey}
variable {CX : CXT} {x : Str} {ps : List Str} {k : Nat} {R : List Ob → Ms → Pk → Prop}
/-- the whole store handed over -/
theorem ex_callM (F : Kn CX X.prog X.w X.K X.mg X.base x ps k (spG X.w X.K R)) (hr : Room k X.A) (hx : Passes CX X E0) (h : EA X C (e :: es) fun os M1 => ∃ post, R os M1 post ∧ ∀ o M', post o M' → P o M') (hg : Gl X x := by rfl) (hdb : (x == ("__debug__" : Str)) = false := by decide)
    (he : starEach (e :: es) X.env = (false, eval e X.env) :: starEach es X.env := by rfl) (hpl : (backTo pos (starEach es X.env)).any (·.1) = false := by rfl) : EX X C (.Call (.Name x p) (e :: es) [] pos) P := fun σ H A Q q => by
  obtain ⟨f, fd, F1, F2, F3, F4⟩ := F.ex
  refine we_of (pe_call F1 hr hg F2 F3 F4 .nil hx pa_w hdb he hpl) (h σ H A _ fun os M1 vs H1 ⟨post, hR, hp⟩ t1 A1 r1 => ?_)
  show spG X.w X.K R (vs ++ []) H1 Q E0
  rw [List.append_nil]
  refine ⟨os, M1, post, hR, r1, A1.mo, A1.nd, fun o M' v H' pp kept tk mo nd new r => ?_⟩
  exact q o M' v H' (hp o M' pp) (t1.trans tk) (A1.calledM kept tk mo nd new) r
/-- xs[:e], e with effects -/
theorem ex_toL {hi : Expr} (h : EX X C a fun o1 M1 => EX X { C with M := M1 } hi fun o2 M2 => ∃ (l : Addr) (j : Nat) (xs : List Ob) (n : Nat), o1 = .r l ∧ o2 = .num n ∧ M2[j]? = some (l, Mo.l xs) ∧ ∀ q, P (.r q) (M2 ++ [(q, Mo.l (xs.take n))])) : EX X C (.Subscript a (.Slice none (some hi) none p2) pos) P := fun σ H A Q q =>
  we_of (pe_slice sl_list pe_w po_w po_w) (h σ H A _ fun o M v H1 h2 t1 A1 r1 => by
    refine h2 σ H1 A1 _ fun o2 M2 v2 H2 ⟨l, j, xs, n, e1, e2, hM, pp⟩ t2 A2 r2 => ?_
    subst e1 e2
    cases (show v = V.ref l from r1)
    refine ⟨n, Dv.int_inv r2, ?_⟩
    obtain ⟨vs, w1, w2⟩ := A2.at_ hM
    refine ⟨l, vs, rfl, SqL.of w1, fun np hp => ?_⟩
    have t4 : Tk H2 (upd H2 np (.lst (cutV vs none (some (n : Int))))) := Tk.new hp
    refine q _ _ _ _ (pp np) ((t1.trans t2).trans t4) (A2.moNew hp ⟨_, upd_same, ?_⟩) rfl
    have := obs_cut none (some (n : Int)) w2
    rw [cut_0n] at this
    exact this.mono t4)
end
/-! ### a def that is handed the script -/
def spS (w : World) (K : PySem.W.Frag) (R : List Int → List Ob → Pk → Prop) : Sp := fun vs H Q _ => ∃ a ns os post, R ns os post ∧ Obs K H (.r a :: os) vs ∧ SqL K H a (ns.map V.int) ∧
  ∀ o M' v H', post o M' → (∀ a x, H a = some x → H' a = some x) → (∀ p ∈ M', p.2.is w K H' p.1) → (M'.map (·.1)).Nodup → (∀ p ∈ M', H p.1 = none) → o.is K H' v → Q v H'
section
variable {P : Program} {w : World} {K : PySem.W.Frag} {mg : Str → Option Value} {base : Heap} {x qual : Str} {params : Arguments} {body : List Stmt} {scope : Scope} {f : Addr} {N ps : List Str} {k : Nat}
theorem kn_mkS {R : List Int → List Ob → Pk → Prop} (F : ∃ fd, FunD K x qual params body scope [] [] f fd) (hm : mg x = some (.ref f)) (S : FnScope N ps scope)
    (hbi : ∀ fd, FunD K x qual params body scope [] [] f fd → Binds K fd ps []) (len : ∀ ns os post, R ns os post → os.length + 1 = ps.length)
    (hbody : ∀ (cdv : Value) (A : Around) (outer : List Env) (s : Shared) (H : Hp) (E : XK) (a : Addr) (ns : List Int) (os : List Ob) (post : Pk), Room k (A.deeper (envOfC qual scope s.heap.objs.size f cdv)) → R ns os post → SqL K H a (ns.map V.int) →
      SO (cxOf CX0 P w K mg base N qual scope f cdv A outer s H E).nox z0 ⟨[], H, (Ob.r a :: os).map some ++ List.replicate (N.length - (os.length + 1)) none, []⟩ body { nx := fun _ M' => post (.d .none) M', rt := post }) :
    Kn CX0 P w K mg base x ps (k + 1) (spS w K R) := by
  obtain ⟨fd, F⟩ := F
  refine ⟨f, fd, F.ok S (fun vs H Q E ⟨a, ns, os, post, hR, ho, _⟩ => by rw [← ho.length]; exact len ns os post hR) (fun cdv A outer s H vs Q E hr ⟨a, ns, os, post, hR, ho, hsq, hq⟩ => ⟨_, pss_w.nox, ?_⟩), hm, F.kp, hbi fd F⟩
  refine hbody cdv A outer s H E a ns os post hr hR hsq _ _ H ⟨fun G M' σ H' q t A' => ?_, fun o M' G σ v H' q t A' r => ?_, fun _ _ _ _ q => q.elim, fun _ _ _ _ q => q.elim, fun _ _ _ _ q => q.elim⟩ ⟨start_sl ho, fun p hp => absurd hp List.not_mem_nil, List.nodup_nil, fun _ _ e _ => e, fun p hp => absurd hp List.not_mem_nil, Tk.refl H⟩
  · exact hq _ M' _ H' q (fun a x e => A'.kp a x e List.not_mem_nil) A'.mo A'.nd (fun p hp => (A'.own p hp).elim (fun z => absurd z List.not_mem_nil) id) Dv.none
  · exact hq o M' v H' q (fun a x e => A'.kp a x e List.not_mem_nil) A'.mo A'.nd (fun p hp => (A'.own p hp).elim (fun z => absurd z List.not_mem_nil) id) r
end
section
variable {X : Cx} {C : Ct} {e a b c : Expr} {es : List Expr} {P P' : Pk} {o oa ob : Ob} {p pos p2 : Pos}
variable {CX : CXT} {x : Str} {ps : List Str} {k : Nat} {R : List Int → List Ob → Pk → Prop} {l : Addr} {ns : List Int}
theorem ex_callS (F : Kn CX X.prog X.w X.K X.mg X.base x ps k (spS X.w X.K R)) (hr : Room k X.A) (hx : Passes CX X E0) (hS : SqL X.K C.H0 l (ns.map V.int)) (hW : l ∉ C.W) (h : EA X C (e :: es) fun os M1 => ∃ os' post, os = .r l :: os' ∧ R ns os' post ∧ ∀ o Mn, post o Mn → P o (M1 ++ Mn)) (hg : Gl X x := by rfl) (hdb : (x == ("__debug__" : Str)) = false := by decide)
    (he : starEach (e :: es) X.env = (false, eval e X.env) :: starEach es X.env := by rfl) (hpl : (backTo pos (starEach es X.env)).any (·.1) = false := by rfl) : EX X C (.Call (.Name x p) (e :: es) [] pos) P := fun σ H A Q q => by
  obtain ⟨f, fd, F1, F2, F3, F4⟩ := F.ex
  refine we_of (pe_call F1 hr hg F2 F3 F4 .nil hx pa_w hdb he hpl) (h σ H A _ fun os M1 vs H1 ⟨os', post, e1, hR, hp⟩ t1 A1 r1 => ?_)
  show spS X.w X.K R (vs ++ []) H1 Q E0
  rw [List.append_nil]
  subst e1
  refine ⟨l, ns, os', post, hR, r1, A1.seqL hS hW, fun o M' v H' pp kept mo nd new r => ?_⟩
  exact q o _ v H' (hp o M' pp) (t1.trans (Tk.of_kept kept)) (A1.called kept mo nd new) r
/-- the script's length, a cell of it -/
theorem ed_lenS (hS : SqL X.K C.H0 l (ns.map V.int)) (hW : l ∉ C.W) (ha : ED X C e (.r l)) (hm : X.mg "len" = none) (hg : Gl X "len" := by rfl) (he : starEach [e] X.env = (false, eval e X.env) :: starEach [] X.env := by rfl) : ED X C (.Call (.Name "len" p) [e] [] pos) (.num ns.length) :=
  ex_callB call_len_seq hg hm PySem.boot_len (ea_cons (ha.ex (ea_nil fun σ H vs A r Q q => by
    obtain ⟨v, rfl, r1⟩ := obs1 r
    cases (show v = V.ref l from r1)
    refine ⟨l, ns.map V.int, rfl, .inl (A.seqL hS hW), ?_⟩
    rw [List.length_map]
    exact q _ _ _ H ⟨rfl, rfl⟩ (Tk.refl H) A (Dv.num _))) he) (he := he)
theorem ed_ixS {i j : Int} (hS : SqL X.K C.H0 l (ns.map V.int)) (hW : l ∉ C.W) (ha : ED X C a (.r l)) (hb : ED X C b (.num i)) (h : atI ns i = some j) (hs : PlainIx b := by intro _ _; rfl) : ED X C (.Subscript a b pos) (.num j) :=
  ex_ix ix_list (ha.ex (hb.ex fun σ H x y A r1 r2 Q q => by
    cases Dv.int_inv r2
    cases (show x = V.ref l from r1)
    refine ⟨l, ns.map V.int, i, .int j, rfl, rfl, A.seqL hS hW, ?_, q _ _ _ H ⟨rfl, rfl⟩ (Tk.refl H) A (Dv.num _)⟩
    unfold atI at h ⊢
    rw [List.length_map]
    cases e : ixN ns.length i with
    | none => rw [e] at h; cases h
    | some m =>
      rw [e] at h
      show (ns.map V.int)[m]? = some (V.int j)
      rw [List.getElem?_map, show ns[m]? = some j from h]
      rfl)) hs
end
/-! ### the deck -/
structure Dk where
  a : Int
  b : Int
  c : Int
def deckO (d : Dk) : Mo := Mo.l [.num d.a, .num d.b, .num d.c]
def Dk.ok (n : Int) (d : Dk) : Prop := 0 ≤ d.a ∧ 0 ≤ d.b ∧ d.b ≤ n ∧ 0 ≤ d.c ∧ d.c < 2147483647
theorem Dk.ok.le {m n : Int} {d : Dk} (h : d.ok m) (e : m ≤ n) : d.ok n := ⟨h.1, h.2.1, by have := h.2.2.1; omega, h.2.2.2⟩
section
variable {P : Program} {w : World} {K : PySem.W.Frag} {mg : Str → Option Value} {base : Heap}
theorem sc_cell : FnScope ["_law_script", "_law_k"] ["_law_script", "_law_k"] (defScope (top 35)) := ⟨rfl, rfl, rfl, by decide +kernel, rfl, by decide +kernel, by decide +kernel⟩
def R_cell : List Int → List Ob → Pk → Prop := fun ns os post => ∃ k : Nat, os = [.num k] ∧ post = fun o' M' => M' = [] ∧ ∃ c : Int, o' = .num c
theorem kn_cell (T : Txt w K mg) : Kn CX0 P w K mg base "_law_cell_at" ["_law_script", "_law_k"] 1 (spS w K R_cell) := by
  refine kn_mkS (T.d 22 _ rfl) (T.g 22 _ rfl) sc_cell (fun fd F => F.bindsN fun _ _ _ _ _ _ us hl => match us, hl with | [_, _], _ => rfl) ?_ ?_
  · rintro _ _ _ ⟨_, rfl, _⟩; rfl
  · rintro cdv A outer s H E a ns _ _ hr ⟨k, rfl, rfl⟩ hS
    refine so_ifK (eb_lt (ed_var 1) (ed_lenS hS List.not_mem_nil (ed_var 0) T.z_len)) (fun h => ?_) fun h => so_nil (so_ret (ED.ex ed_int ⟨rfl, _, rfl⟩))
    have hk : k < ns.length := by have := of_decide_eq_true h; omega
    exact so_ret (ED.ex (ed_ixS hS List.not_mem_nil (ed_var 0) (ed_var 1) (atI_nat (List.getElem?_eq_getElem hk))) ⟨rfl, _, rfl⟩)
/-! ### _law_deck -/
theorem sc_deck : FnScope ["_law_cell"] ["_law_cell"] (defScope (top 36)) := ⟨rfl, rfl, rfl, by decide +kernel, rfl, by decide +kernel, by decide +kernel⟩
def R_deck : List Ob → Ms → Pk → Prop := fun os M post => ∃ c : Int, os = [.num c] ∧ M = [] ∧ post = fun o' M' => ∃ l d, Dk.ok 0 d ∧ o' = .r l ∧ M' = [(l, deckO d)]
theorem le3' : 3 ≤ sizeLine := by decide
theorem kn_deck (T : Txt w K mg) : Kn CX0 P w K mg base "_law_deck" ["_law_cell"] 1 (spG w K R_deck) := by
  refine kn_mk (T.d 23 _ rfl) (T.g 23 _ rfl) sc_deck (fun fd F => F.bindsN fun _ _ _ _ _ _ us hl => match us, hl with | [_], _ => rfl) ?_ ?_
  · rintro _ _ _ ⟨_, rfl, _⟩; rfl
  · rintro cdv A outer s H E _ _ _ hr ⟨c, rfl, rfl, rfl⟩
    have h1 := Int.emod_nonneg c (show (2147483647 : Int) ≠ 0 by decide)
    have h2 := Int.emod_lt_of_pos c (show (0 : Int) < 2147483647 by decide)
    refine so_ifK (eb_lt (ed_var 0) (ed_pow ed_int ed_int ⟨by decide, by decide, by decide⟩)) (fun h => ?_) fun h => so_nil ?_
    · refine so_ret (ex_lst (ea_cons (ED.ex ed_int (ea_cons (ED.ex ed_int (ea_cons (ED.ex (ed_mod (ed_var 0) ed_int (by decide)) (ea_nil ⟨le3', fun p => ⟨p, ⟨0, 0, c % 2147483647⟩, ⟨Int.le_refl _, Int.le_refl _, Int.le_refl _, h1, h2⟩, rfl, rfl⟩⟩))))))))
    · have h := of_decide_eq_false h
      have hc : 0 ≤ c := by
        have : (10 : Int) ^ (18 : Int).toNat = 1000000000000000000 := by decide
        rw [this] at h
        omega
      refine so_ret (ex_lst (ea_cons (ED.ex (ed_var 0) (ea_cons (ED.ex ed_int (ea_cons (ED.ex (ed_mod (ed_var 0) ed_int (by decide)) (ea_nil ⟨le3', fun p => ⟨p, ⟨c, 0, c % 2147483647⟩, ⟨hc, Int.le_refl _, Int.le_refl _, h1, h2⟩, rfl, rfl⟩⟩))))))))
/-! ### _law_deck_at -/
theorem sc_deckat : FnScope ["_law_script", "_law_k", "_law_cell"] ["_law_script", "_law_k"] (defScope (top 41)) := ⟨rfl, rfl, rfl, by decide +kernel, rfl, by decide +kernel, by decide +kernel⟩
def R_deckat : List Int → List Ob → Pk → Prop := fun ns os post => ∃ k : Nat, k ≤ 1000 ∧ os = [.num k] ∧ post = fun o' M' => ∃ l d, Dk.ok 0 d ∧ o' = .r l ∧ M' = [(l, deckO d)]
theorem kn_deckat (T : Txt w K mg) : Kn CX0 P w K mg base "_law_deck_at" ["_law_script", "_law_k"] 2 (spS w K R_deckat) := by
  refine kn_mkS (T.d 27 _ rfl) (T.g 27 _ rfl) sc_deckat (fun fd F => F.bindsN fun _ _ _ _ _ _ us hl => match us, hl with | [_, _], _ => rfl) ?_ ?_
  · rintro _ _ _ ⟨_, _, rfl, _⟩; rfl
  · rintro cdv A outer s H E a ns _ _ hr ⟨k, hk, rfl, rfl⟩ hS
    refine so_asg 2 (ex_callS (kn_cell T) hr pass0 hS List.not_mem_nil (EDs.ex (eds_cons (ed_var 0) (eds_cons (ed_var 1) eds_nil)) ⟨_, _, rfl, ⟨k, rfl, rfl⟩, fun o' Mn hh => ?_⟩)) sc_deckat.nd
    obtain ⟨rfl, c, rfl⟩ := hh
    have h1 := Int.emod_nonneg c (show (2147483647 : Int) ≠ 0 by decide)
    have h2 := Int.emod_lt_of_pos c (show (0 : Int) < 2147483647 by decide)
    refine so_ifK (eb_lt (ed_var 2) (ed_pow ed_int ed_int ⟨by decide, by decide, by decide⟩)) (fun h => ?_) fun h => so_nil ?_
    · refine so_ret (ex_call (kn_deck T) hr pass0 (EDs.ex (eds_cons (ed_add (ed_mul (ed_mod (ed_var 2) ed_int (by decide)) ed_int (.inr (by decide))) (ed_mul ed_int (ed_var 1) (.inl (by decide)))) eds_nil) ⟨_, ⟨_, rfl, rfl, rfl⟩, fun o' Mn hh => hh⟩))
    · exact so_ret (ex_call (kn_deck T) hr pass0 (EDs.ex (eds_cons (ed_var 2) eds_nil) ⟨_, ⟨_, rfl, rfl, rfl⟩, fun o' Mn hh => hh⟩))
end
end Brd
set_option maxHeartbeats 2000000
namespace Brd
open PySem PySem.Spec PyProof.Rows L2 BM
section
variable {P : Program} {w : World} {K : PySem.W.Frag} {mg : Str → Option Value} {base : Heap}
/-! ### _law_draw -/
theorem sc_draw : FnScope ["_law_deck_here", "_law_most", "_law_found", "_law_mixed"] ["_law_deck_here", "_law_most"] (defScope (top 37)) := ⟨rfl, rfl, rfl, by decide +kernel, rfl, by decide +kernel, by decide +kernel⟩
def R_draw : List Ob → Ms → Pk → Prop := fun os M post => ∃ (l : Addr) (d : Dk) (n most : Int), d.ok n ∧ n ≤ 1000000 ∧ 0 < most ∧ most < 1073741824 ∧ os = [.r l, .num most] ∧ M = [(l, deckO d)] ∧ post = fun o' M' => ∃ (r : Int) (d' : Dk), 0 ≤ r ∧ r < most ∧ d'.ok (n + 1) ∧ o' = .num r ∧ M' = [(l, deckO d')]
theorem kn_draw (T : Txt w K mg) : Kn CX0 P w K mg base "_law_draw" ["_law_deck_here", "_law_most"] 1 (spG w K R_draw) := by
  refine kn_mk (T.d 24 _ rfl) (T.g 24 _ rfl) sc_draw (fun fd F => F.bindsN fun _ _ _ _ _ _ us hl => match us, hl with | [_, _], _ => rfl) ?_ ?_
  · rintro _ _ _ ⟨_, _, _, _, _, _, _, _, rfl, _⟩; rfl
  · rintro cdv A outer s H E _ _ _ hr ⟨l, ⟨a, b, c⟩, n, most, ⟨ha, hb, hbn, hc, hc2⟩, hn, hm, hm2, rfl, rfl, rfl⟩
    have ha : 0 ≤ a := ha
    have hb : 0 ≤ b := hb
    have hbn : b ≤ n := hbn
    have hc : 0 ≤ c := hc
    have hc2 : c < 2147483647 := hc2
    refine so_ifK (eb_gt (ed_ixL (j := 0) (os := [.num a, .num b, .num c]) (o := .num a) (ed_var 0) ed_int rfl rfl) ed_int) (fun h => ?_) fun h => so_nil ?_
    · refine so_asg 2 (ED.ex (ed_mod (ed_ixL (j := 0) (os := [.num a, .num b, .num c]) (o := .num a) (ed_var 0) ed_int rfl rfl) (ed_var 1) hm) ?_) sc_draw.nd
      refine so_setL2 (ED.ex (ed_fdiv (ed_ixL (j := 0) (os := [.num a, .num b, .num c]) (o := .num a) (ed_var 0) ed_int rfl rfl) (ed_var 1) ⟨hm, hm2⟩) (ED.ex (ed_var 0) (ED.ex ed_int ⟨l, 0, [.num a, .num b, .num c], [.num (a / most), .num b, .num c], 0, 0, rfl, rfl, rfl, rfl, rfl, ?_⟩)))
      exact so_ret (ED.ex (ed_var 2) ⟨a % most, ⟨a / most, b, c⟩, Int.emod_nonneg _ (by omega), Int.emod_lt_of_pos _ hm, ⟨Int.ediv_nonneg ha (by omega), hb, by show b ≤ n + 1; omega, hc, hc2⟩, rfl, rfl⟩)
    · have hq : ∀ x : Int, (∃ y, y = x) := fun x => ⟨x, rfl⟩
      refine so_setL2 (ED.ex (ed_add (ed_ixL (j := 0) (os := [.num a, .num b, .num c]) (o := .num b) (ed_var 0) ed_int rfl rfl) ed_int) (ED.ex (ed_var 0) (ED.ex ed_int ⟨l, 0, [.num a, .num b, .num c], [.num a, .num (b + 1), .num c], 1, 1, rfl, rfl, rfl, rfl, rfl, ?_⟩)))
      have e1 : ∀ X : Cx, ∀ C : Ct, True := fun _ _ => trivial
      refine so_asg 3 (ED.ex (ed_mod (ed_mul (ed_add (ed_ixL (j := 0) (os := [.num a, .num (b + 1), .num c]) (o := .num c) (ed_var 0) ed_int rfl rfl) (ed_mul (ed_mul ed_int (ed_ixL (j := 0) (os := [.num a, .num (b + 1), .num c]) (o := .num (b + 1)) (ed_var 0) ed_int rfl rfl) (.inl (by decide))) (ed_ixL (j := 0) (os := [.num a, .num (b + 1), .num c]) (o := .num (b + 1)) (ed_var 0) ed_int rfl rfl) (.inr (by omega)))) ed_int (.inr (by decide))) ed_int (by decide)) ?_) sc_draw.nd
      obtain ⟨m, hmx⟩ : ∃ m, m = (c + 7919 * (b + 1) * (b + 1)) * 48271 % 2147483647 := ⟨_, rfl⟩
      rw [← hmx]
      have m1 : 0 ≤ m := by rw [hmx]; exact Int.emod_nonneg _ (by decide)
      have m2 : m < 2147483647 := by rw [hmx]; exact Int.emod_lt_of_pos _ (by decide)
      exact so_ret (ED.ex (ed_mod (ed_fdiv (ed_mod (ed_mul (ed_var 3) (ed_add (ed_var 3) ed_int) (.inl (by omega))) ed_int (by decide)) ed_int ⟨by decide, by decide⟩) (ed_var 1) hm) ⟨_, ⟨a, b + 1, c⟩, Int.emod_nonneg _ (by omega), Int.emod_lt_of_pos _ hm, ⟨ha, by show 0 ≤ b + 1; omega, by show b + 1 ≤ n + 1; omega, hc, hc2⟩, rfl, rfl⟩)
/-! ### _law_is_place -/
theorem sc_isp : FnScope ["_law_thing", "_law_most"] ["_law_thing", "_law_most"] (defScope (top 44)) := ⟨rfl, rfl, rfl, by decide +kernel, rfl, by decide +kernel, by decide +kernel⟩
def G_isp : List Ob → Ob → Prop := fun os o => ∃ (i m : Int), os = [.num i, .num m] ∧ o = .bl (decide (0 ≤ i) && decide (i < m))
theorem kn_isp (T : Txt w K mg) : Kn CX0 P w K mg base "_law_is_place" ["_law_thing", "_law_most"] 1 (spG w K (RD G_isp)) := by
  refine kn_mk (T.d 30 _ rfl) (T.g 30 _ rfl) sc_isp (fun fd F => F.bindsN fun _ _ _ _ _ _ us hl => match us, hl with | [_, _], _ => rfl) ?_ ?_
  · rintro _ _ _ ⟨_, _, ⟨_, _, rfl, _⟩, _⟩; rfl
  · rintro cdv A outer s H E _ _ _ hr ⟨rfl, _, ⟨i, m, rfl, rfl⟩, rfl⟩
    exact so_ret (ED.ex ((ed_and (k := true) (l := decide (0 ≤ i) && decide (i < m)) (ed_isi (T := "int") (k := .num i) (ed_var 0) rfl (by decide +kernel) T.z_int rfl (by decide) (by decide) T.z_isinstance) fun _ => ed_and (k := true) (l := decide (0 ≤ i) && decide (i < m)) (ed_not (k := false) (ed_isi (T := "bool") (k := .num i) (ed_var 0) rfl (by decide +kernel) T.z_bool rfl (by decide) (by decide) T.z_isinstance)) fun _ => ed_one (ed_chain op_le op_lt ed_int (ed_var 0) (ed_var 1)))) ⟨rfl, rfl⟩)
/-! ### _law_back -/
theorem sc_lback : FnScope ["_law_word", "_law_number"] ["_law_word"] (defScope (top 43)) := ⟨rfl, rfl, rfl, by decide +kernel, rfl, by decide +kernel, by decide +kernel⟩
def R_lback : List Ob → Ms → Pk → Prop := fun os M post => ∃ u : Wd, u.length ≤ sizeLine ∧ os = [.d (kW u)] ∧ M = [] ∧ post = fun o' M' => ∃ l, o' = .r l ∧ M' = [(l, Mo.l ((opp u).map Ob.num))]
theorem kn_lback (T : Txt w K mg) : Kn CX0 P w K mg base "_law_back" ["_law_word"] 1 (spG w K R_lback) := by
  refine kn_mk (T.d 29 _ rfl) (T.g 29 _ rfl) sc_lback (fun fd F => F.bindsN fun _ _ _ _ _ _ us hl => match us, hl with | [_], _ => rfl) ?_ ?_
  · rintro _ _ _ ⟨_, _, rfl, _⟩; rfl
  · rintro cdv A outer s H E _ _ _ hr ⟨u, hu, rfl, rfl, rfl⟩
    have hlen : (u.map NestedKey.num).reverse.length = u.length := by rw [List.length_reverse, List.length_map]
    have key : (List.range (u.map NestedKey.num).reverse.length).map (fun i => NestedKey.num (-(u.reverse.getD i 0))) = (opp u).map .num := by
      have := map_range (fun i => NestedKey.num (-(u.reverse.getD i 0))) ((opp u).map .num) (fun i hi => by
        rw [List.length_map, opp_len] at hi
        rw [List.getElem?_map]
        unfold opp
        rw [List.getElem?_map, List.getD_eq_getElem?_getD, List.getElem?_eq_getElem (by rw [List.length_reverse]; exact hi)]
        rfl)
      rw [List.length_map, opp_len] at this
      rw [hlen]
      exact this
    refine so_ret (EX.mono (ed_lc1 1 (fun i => .num (-(u.reverse.getD i 0))) rfl sc_lback.nd (blkOk_by (N := ["_law_word", "_law_number"]) (sc := defScope (top 43)) (by decide +kernel)) (by rw [hlen]; exact hu) (fun _ _ _ _ _ => pg_name (i := 1) sc_lback.nd rfl (Or.inl rfl)) (ir_tup (ks := (u.map NestedKey.num).reverse) (ed_rev (ks := u.map .num) (ed_var 0))) (fun i M hi s H Cc cl fp => ?_)) fun o M ⟨l, e1, e2⟩ => ⟨l, e1, by rw [e2, key, List.map_map]; rfl⟩)
    refine ed_neg (ED.cast (ed_var 1) ?_)
    rw [hlen] at hi
    rw [← List.map_reverse, List.getD_eq_getElem?_getD, List.getD_eq_getElem?_getD, List.getElem?_map, List.getElem?_eq_getElem (by rw [List.length_reverse]; exact hi)]
    rfl
/-! ### _law_times -/
theorem sc_times : FnScope ["_law_words", "_law_found", "_law_word", "_law_number"] ["_law_words"] (defScope (top 42)) := ⟨rfl, rfl, rfl, by decide +kernel, rfl, by decide +kernel, by decide +kernel⟩
def R_times : List Ob → Ms → Pk → Prop := fun os M post => ∃ (l : Addr) (j : Nat) (qs : List (Addr × Wd)), (qs.map (·.2)).flatten.length ≤ sizeLine ∧ os = [.r l] ∧ M[j]? = some (l, Mo.l (qs.map fun q => .r q.1)) ∧ (∀ q ∈ qs, ∃ i : Nat, M[i]? = some (q.1, Mo.l (q.2.map Ob.num))) ∧ post = fun o' M' => ∃ p, o' = .r p ∧ M' = M ++ [(p, Mo.l ((put (qs.map (·.2))).map Ob.num))]
theorem app_get {α : Type} {xs : List α} {x y : α} {i : Nat} (h : xs[i]? = some x) : (xs ++ [y])[i]? = some x := by
  rw [List.getElem?_append_left (List.getElem?_eq_some_iff.mp h).1]; exact h
theorem set_lastO {M : Ms} {D : Addr} {m m' : Mo} {n : Nat} (h : n = M.length) : (M ++ [(D, m)]).set n (D, m') = M ++ [(D, m')] := by subst h; exact set_last
theorem kn_times (T : Txt w K mg) : Kn CX0 P w K mg base "_law_times" ["_law_words"] 1 (spG w K R_times) := by
  refine kn_mk (T.d 28 _ rfl) (T.g 28 _ rfl) sc_times (fun fd F => F.bindsN fun _ _ _ _ _ _ us hl => match us, hl with | [_], _ => rfl) ?_ ?_
  · rintro _ _ _ ⟨_, _, _, _, rfl, _⟩; rfl
  · rintro cdv A outer s H E _ M _ hr ⟨l, j, qs, hz, rfl, hj, hq, rfl⟩
    refine so_asg 1 (ex_lst (ea_nil ⟨Nat.zero_le _, fun p => ?_⟩)) sc_times.nd
    refine so_forL PassesOwn.never rfl (ED.ex (ed_var 0) ⟨l, _, rfl, fun i G M' => ∃ g2 g3, G = [some (.r l), some (.r p), g2, g3] ∧ M' = M ++ [(p, Mo.l ((act ((qs.map (·.2)).take i).flatten []).reverse.map Ob.num))], ⟨none, none, rfl, rfl⟩, fun i G M' ⟨_, _, _, e⟩ => ⟨j, by rw [e]; exact app_get hj⟩, ?_, ?_⟩)
    · rintro i ob _ _ hob ⟨g2, g3, rfl, rfl⟩
      rw [List.getElem?_map] at hob
      obtain ⟨⟨qa, u⟩, hu0, rfl⟩ := Option.map_eq_some_iff.mp hob
      obtain ⟨iq, hiq⟩ := hq _ (List.mem_of_getElem? hu0)
      have hu : (qs.map (·.2))[i]? = some u := by rw [List.getElem?_map, hu0]; rfl
      refine go_name 2 ?_ sc_times.nd
      refine so_forL PassesOwn.never rfl (ED.ex (ed_var 2) ⟨qa, u.map Ob.num, rfl, fun k G M' => ∃ g3, G = [some (.r l), some (.r p), some (.r qa), g3] ∧ M' = M ++ [(p, Mo.l ((act (u.take k) (act ((qs.map (·.2)).take i).flatten [])).reverse.map Ob.num))], ⟨g3, rfl, rfl⟩, fun k G M' ⟨_, _, e⟩ => ⟨iq, by rw [e]; exact app_get hiq⟩, ?_, ?_⟩)
      · rintro k kk _ _ hkk ⟨g3, rfl, rfl⟩
        rw [List.getElem?_map] at hkk
        obtain ⟨x, hx, rfl⟩ := Option.map_eq_some_iff.mp hkk
        refine go_name 3 ?_ sc_times.nd
        have hlen : (act (u.take k) (act ((qs.map (·.2)).take i).flatten [])).length < sizeLine := by
          have h1 := act_len (u.take k) (act ((qs.map (·.2)).take i).flatten [])
          have h2 := act_len ((qs.map (·.2)).take i).flatten []
          have h3 := flat_room hu (List.getElem?_eq_some_iff.mp hx).1
          have h4 : (u.take k).length ≤ k := by rw [List.length_take]; omega
          simp only [List.length_nil] at h2
          omega
        have hnext : act (u.take (k + 1)) (act ((qs.map (·.2)).take i).flatten []) = psh (act (u.take k) (act ((qs.map (·.2)).take i).flatten [])) x := by rw [take_snoc hx, act_snoc]
        cases ht : act (u.take k) (act ((qs.map (·.2)).take i).flatten []) with
        | nil =>
          rw [ht] at hnext
          have hM : (M ++ [(p, Mo.l (([] : List Int).reverse.map Ob.num))])[M.length]? = some (p, Mo.l (([] : List Int).map .num)) := last_at
          refine so_ifK (k := false) (eb_w (eb_and (k := false) (l := true) (eb_neNil (ns := []) (j := M.length) (hu64 hr) (ed_var 1) hM) fun e => nomatch e)) (fun e => nomatch e) fun _ => ?_
          have eM : (M ++ [(p, Mo.l (([] : List Int).reverse.map Ob.num))]).set M.length (p, Mo.l ([] ++ [Ob.num x])) = M ++ [(p, Mo.l ((act (u.take (k + 1)) (act ((qs.map (·.2)).take i).flatten [])).reverse.map Ob.num))] := by
            rw [hnext, set_last]; rfl
          refine so_expr (ex_append (ED.ex (ed_var 1) ⟨p, M.length, _, rfl, hM, ea_cons (ED.ex (ed_var 3) (ea_nil ⟨M.length, _, _, rfl, hM, by decide, ?_⟩))⟩))
          exact so_nil (so_nil ⟨_, rfl, eM⟩)
        | cons y r =>
          rw [ht] at hnext hlen
          have hne : (!((y :: r).reverse).isEmpty) = true := by simp
          have hat : atI ((y :: r).reverse.map Ob.num) (-1) = some (Ob.num y) := by rw [List.reverse_cons, List.map_append]; exact atI_last _ _
          have hM : (M ++ [(p, Mo.l ((y :: r).reverse.map Ob.num))])[M.length]? = some (p, Mo.l ((y :: r).reverse.map Ob.num)) := last_at
          refine so_ifK (k := decide (y = -x)) (EB.cast (eb_w (eb_and (k := !((y :: r).reverse).isEmpty) (l := decide (y = -x)) (eb_neNil (ns := (y :: r).reverse) (j := M.length) (hu64 hr) (ed_var 1) hM) fun _ => eb_and1 (eb_eqI (ed_ixL (j := M.length) (ed_var 1) (ed_neg ed_int) hM hat) (ed_neg (ed_var 3))))) (by rw [hne, Bool.true_and])) (fun e => ?_) fun e => ?_
          · have e := of_decide_eq_true e
            have e2 : psh (y :: r) x = r := by simp [psh, e]
            have eM : (M ++ [(p, Mo.l ((y :: r).reverse.map Ob.num))]).set M.length (p, Mo.l ((y :: r).reverse.map Ob.num).dropLast) = M ++ [(p, Mo.l ((act (u.take (k + 1)) (act ((qs.map (·.2)).take i).flatten [])).reverse.map Ob.num))] := by
              rw [hnext, e2, set_last, List.reverse_cons, List.map_append]
              simp
            refine so_expr (ex_pop (ED.ex (ed_var 1) ⟨p, M.length, _, Ob.num y, rfl, hM, ?_, ?_⟩))
            · rw [List.reverse_cons, List.map_append, List.length_append]
              simp
            · exact so_nil (so_nil ⟨_, rfl, eM⟩)
          · have e := of_decide_eq_false e
            have e2 : psh (y :: r) x = x :: y :: r := by simp [psh, e]
            have eM : (M ++ [(p, Mo.l ((y :: r).reverse.map Ob.num))]).set M.length (p, Mo.l ((y :: r).reverse.map Ob.num ++ [Ob.num x])) = M ++ [(p, Mo.l ((act (u.take (k + 1)) (act ((qs.map (·.2)).take i).flatten [])).reverse.map Ob.num))] := by
              rw [hnext, e2, set_last, List.reverse_cons (a := x), List.map_append]
              rfl
            refine so_expr (ex_append (ED.ex (ed_var 1) ⟨p, M.length, _, rfl, hM, ea_cons (ED.ex (ed_var 3) (ea_nil ⟨M.length, _, _, rfl, hM, by rw [List.length_map, List.length_reverse]; exact hlen, ?_⟩))⟩))
            exact so_nil (so_nil ⟨_, rfl, eM⟩)
      · rintro _ _ ⟨g3, rfl, rfl⟩
        have e9 : act (u.take (u.map Ob.num).length) (act ((qs.map (·.2)).take i).flatten []) = act ((qs.map (·.2)).take (i + 1)).flatten [] := by
          rw [List.length_map, List.take_length, take_snoc hu, List.flatten_append, act_append]
          simp
        exact so_nil ⟨_, _, rfl, congrArg (fun a => M ++ [(p, Mo.l (a.reverse.map Ob.num))]) e9⟩
    · rintro _ _ ⟨g2, g3, rfl, rfl⟩
      have e9 : (qs.map (·.2)).take (qs.map fun q => Ob.r q.1).length = qs.map (·.2) := by
        rw [List.length_map, List.take_of_length_le (by rw [List.length_map]; exact Nat.le_refl _)]
      refine so_ret (ED.ex (ed_var 1) ⟨p, rfl, ?_⟩)
      exact congrArg (fun a => M ++ [(p, Mo.l ((act (List.flatten a) []).reverse.map Ob.num))]) e9
end
end Brd
set_option maxHeartbeats 2000000
namespace Brd
open PySem PySem.Spec PyProof.Rows L2 BM
section
variable {P : Program} {w : World} {K : PySem.W.Frag} {mg : Str → Option Value} {base : Heap}
/-! ### _law_words_in -/
theorem sc_win : FnScope ["_law_words", "_law_others", "_law_found", "_law_word", "_law_parts", "_law_number"] ["_law_words", "_law_others"] (defScope (top 40)) := ⟨rfl, rfl, rfl, by decide +kernel, rfl, by decide +kernel, by decide +kernel⟩
def G_win : List Ob → Ob → Prop := fun os o => ∃ (ws vs : List Wd) (a b : Nat), (∀ i, (ws.getD i []).length ≤ a) ∧ (∀ v ∈ vs, LV ws.length v ∧ v.length ≤ b) ∧ a * b ≤ sizeLine ∧ 1 ≤ a ∧ b < 10000 ∧ a < 10000 ∧ vs.length ≤ 100 ∧ os = [.d (kWs ws), .d (kWs vs)] ∧ o = .d (kWs (wordsIn ws vs))
theorem part_len {ws : List Wd} {a : Nat} (h : ∀ i, (ws.getD i []).length ≤ a) (x : Int) : (partOf ws x).length ≤ a := by
  unfold partOf
  split
  · exact h _
  · rw [opp_len]; exact h _
theorem flat_le {ws : List Wd} {a : Nat} (h : ∀ w ∈ ws, w.length ≤ a) : ws.flatten.length ≤ a * ws.length := by
  induction ws with
  | nil => simp
  | cons w ws ih =>
    have h1 := h w List.mem_cons_self
    have h2 := ih fun x hx => h x (List.mem_cons_of_mem _ hx)
    rw [List.flatten_cons, List.length_append, List.length_cons, Nat.mul_add]
    omega
def prO (qs : List (Addr × Wd)) : Ms := qs.map fun q => (q.1, Mo.l (q.2.map Ob.num))
theorem prO_at {qs : List (Addr × Wd)} {q : Addr × Wd} (h : q ∈ qs) : ∃ i : Nat, (prO qs)[i]? = some (q.1, Mo.l (q.2.map Ob.num)) := by
  obtain ⟨i, hi⟩ := List.mem_iff_getElem?.mp h
  exact ⟨i, by unfold prO; rw [List.getElem?_map, hi]; rfl⟩
theorem prO_snoc (qs : List (Addr × Wd)) (q : Addr) (u : Wd) : prO (qs ++ [(q, u)]) = prO qs ++ [(q, Mo.l (u.map Ob.num))] := by unfold prO; rw [List.map_append]; rfl
theorem kn_win (T : Txt w K mg) : Kn CX0 P w K mg base "_law_words_in" ["_law_words", "_law_others"] 2 (spG w K (RD G_win)) := by
  refine kn_mk (T.d 26 _ rfl) (T.g 26 _ rfl) sc_win (fun fd F => F.bindsN fun _ _ _ _ _ _ us hl => match us, hl with | [_, _], _ => rfl) ?_ ?_
  · rintro _ _ _ ⟨_, _, ⟨_, _, _, _, _, _, _, _, _, _, _, rfl, _⟩, _⟩; rfl
  · rintro cdv A outer s H E _ _ _ hr ⟨rfl, _, ⟨ws, vs, a, b, hws, hvs, hab, ha1, hb, ha, hvl, rfl, rfl⟩, rfl⟩
    have hline := line
    refine so_asg 2 (ex_lst (ea_nil ⟨Nat.zero_le _, fun F => ?_⟩)) sc_win.nd
    refine so_forT PassesOwn.never rfl (ks := vs.map kW) (ed_var 1) (fun i G M => ∃ g3 g4 g5, G = [some (.d (kWs ws)), some (.d (kWs vs)), some (.r F), g3, g4, g5] ∧ M = [(F, Mo.l (((wordsIn ws (vs.take i)).map kW).map .d))]) ⟨none, none, none, rfl, rfl⟩ ?_ ?_
    · rintro i kk _ _ hkk ⟨g3, g4, g5, rfl, rfl⟩
      rw [List.getElem?_map] at hkk
      obtain ⟨v, hv, rfl⟩ := Option.map_eq_some_iff.mp hkk
      obtain ⟨lv, vl⟩ := hvs v (List.mem_of_getElem? hv)
      have hi : i < vs.length := (List.getElem?_eq_some_iff.mp hv).1
      refine go_name 3 ?_ sc_win.nd
      refine so_asg 4 (ex_lst (ea_nil ⟨Nat.zero_le _, fun Q => ?_⟩)) sc_win.nd
      refine so_forT PassesOwn.never rfl (ks := v.map .num) (ed_var 3) (fun k G M => ∃ g5 qs, qs.map (·.2) = (v.take k).map (partOf ws) ∧ G = [some (.d (kWs ws)), some (.d (kWs vs)), some (.r F), some (.d (kW v)), some (.r Q), g5] ∧ M = (F, Mo.l (((wordsIn ws (vs.take i)).map kW).map .d)) :: (Q, Mo.l (qs.map fun q => .r q.1)) :: prO qs) ⟨g5, [], rfl, rfl, rfl⟩ ?_ ?_
      · rintro k kk _ _ hkk ⟨g5, qs, hqs, rfl, rfl⟩
        rw [List.getElem?_map] at hkk
        obtain ⟨x, hx, rfl⟩ := Option.map_eq_some_iff.mp hkk
        have hk : k < v.length := (List.getElem?_eq_some_iff.mp hx).1
        obtain ⟨x0, x1⟩ := lv x (List.mem_of_getElem? hx)
        have hql : qs.length = k := by
          have := congrArg List.length hqs
          rw [List.length_map, List.length_map, List.length_take] at this
          omega
        refine go_name 5 ?_ sc_win.nd
        have hadd : ∀ (q : Addr), (qs ++ [(q, partOf ws x)]).map (·.2) = (v.take (k + 1)).map (partOf ws) := fun q => by
          rw [take_snoc hx, List.map_append, List.map_append, hqs]; rfl
        have eM : ∀ (q : Addr), (((F, Mo.l (((wordsIn ws (vs.take i)).map kW).map .d)) :: (Q, Mo.l (qs.map fun q => .r q.1)) :: prO qs) ++ [(q, Mo.l ((partOf ws x).map Ob.num))]).set 1 (Q, Mo.l ((qs.map fun q => Ob.r q.1) ++ [Ob.r q])) = (F, Mo.l (((wordsIn ws (vs.take i)).map kW).map .d)) :: (Q, Mo.l ((qs ++ [(q, partOf ws x)]).map fun q => .r q.1)) :: prO (qs ++ [(q, partOf ws x)]) := fun q => by
          rw [prO_snoc, List.map_append]
          rfl
        refine so_ifK (eb_gt (ed_var 5) ed_int) (fun h => ?_) fun h => ?_
        · have h := of_decide_eq_true h
          have e1 : partOf ws x = ws.getD (x.toNat - 1) [] := by unfold partOf; rw [if_pos h]
          have hat : atI (ws.map kW) (x - 1) = some (kW (partOf ws x)) := by
            rw [e1]
            have := kWs_at (ws := ws) (i := x.toNat - 1) (by omega)
            rw [show ((x.toNat - 1 : Nat) : Int) = x - 1 by omega] at this
            exact this
          refine so_expr (ex_append (ED.ex (ed_var 4) ⟨Q, 1, _, rfl, rfl, ea_cons (ex_listT (ED.ex (ed_ix (k := kW (partOf ws x)) (ks := ws.map kW) (ed_var 0) (ed_sub (ed_var 5) ed_int) hat) ⟨(partOf ws x).map .num, rfl, fun q => ea_nil ⟨1, qs.map (fun q => .r q.1), _, rfl, rfl, by rw [List.length_map]; omega, ?_⟩⟩) T.z_list)⟩))
          refine so_nil (so_nil ⟨_, qs ++ [(q, partOf ws x)], hadd q, rfl, ?_⟩)
          have := eM q
          have eN : (partOf ws x).map Ob.num = ((partOf ws x).map NestedKey.num).map Ob.d := by rw [List.map_map]; rfl
          rw [eN] at this
          exact this
        · have h := of_decide_eq_false h
          have e1 : partOf ws x = opp (ws.getD ((-x).toNat - 1) []) := by unfold partOf; rw [if_neg h]
          have hat : atI (ws.map kW) (-x - 1) = some (kW (ws.getD ((-x).toNat - 1) [])) := by
            have := kWs_at (ws := ws) (i := (-x).toNat - 1) (by omega)
            rw [show (((-x).toNat - 1 : Nat) : Int) = -x - 1 by omega] at this
            exact this
          refine so_expr (ex_append (ED.ex (ed_var 4) ⟨Q, 1, _, rfl, rfl, ea_cons (ex_call (kn_lback T) hr pass0 (EDs.ex (eds_cons (ed_ix (k := kW (ws.getD ((-x).toNat - 1) [])) (ks := ws.map kW) (ed_var 0) (ed_sub (ed_neg (ed_var 5)) ed_int) hat) eds_nil) ⟨_, ⟨ws.getD ((-x).toNat - 1) [], by have := hws ((-x).toNat - 1); omega, rfl, rfl, rfl⟩, fun o' Mn hh => ?_⟩))⟩))
          obtain ⟨q, rfl, rfl⟩ := hh
          refine ea_nil ⟨1, qs.map (fun q => .r q.1), _, rfl, rfl, by rw [List.length_map]; omega, ?_⟩
          refine so_nil (so_nil ⟨_, qs ++ [(q, partOf ws x)], hadd q, rfl, ?_⟩)
          have := eM q
          rw [e1] at this ⊢
          exact this
      · rintro _ _ ⟨g5, qs, hqs, rfl, rfl⟩
        rw [List.length_map, List.take_length] at hqs
        have hfl : (qs.map (·.2)).flatten.length ≤ sizeLine := by
          rw [hqs]
          have h1 := flat_le (ws := v.map (partOf ws)) (a := a) fun u hu => by
            obtain ⟨x, _, rfl⟩ := List.mem_map.mp hu
            exact part_len hws x
          rw [List.length_map] at h1
          have h2 := Nat.mul_le_mul_left a vl
          omega
        have e9 : ((wordsIn ws (vs.take i)).map kW).map Ob.d ++ [Ob.d (kW (put (qs.map (·.2))))] = ((wordsIn ws (vs.take (i + 1))).map kW).map Ob.d := by
          rw [take_snoc hv]
          unfold wordsIn
          rw [List.map_append, List.map_append, List.map_append, hqs]
          rfl
        refine so_expr (ex_append (ED.ex (ed_var 2) ⟨F, 0, _, rfl, rfl, ea_cons (ex_tupleL (ex_callM (kn_times T) hr pass0 (EDs.ex (eds_cons (ed_var 4) eds_nil) ⟨_, ⟨Q, 1, qs, hfl, rfl, rfl, fun q hq => ?_, rfl⟩, fun o' M' hh => ?_⟩)) T.z_tuple)⟩))
        · obtain ⟨i, hi⟩ := prO_at hq
          exact ⟨i + 2, hi⟩
        · obtain ⟨p, rfl, rfl⟩ := hh
          refine ⟨p, (prO qs).length + 2, (put (qs.map (·.2))).map .num, rfl, ?_, ea_nil ⟨0, ((wordsIn ws (vs.take i)).map kW).map .d, _, rfl, rfl, ?_, ?_⟩⟩
          · show (((F, Mo.l (((wordsIn ws (vs.take i)).map kW).map .d)) :: (Q, Mo.l (qs.map fun q => .r q.1)) :: prO qs) ++ [(p, Mo.l ((put (qs.map (·.2))).map Ob.num))])[(prO qs).length + 2]? = _
            rw [List.getElem?_append_right (by simp), List.map_map]
            simp
          · unfold wordsIn
            rw [List.length_map, List.length_map, List.length_map, List.length_take]; omega
          · refine so_drop (M := [(F, Mo.l (((wordsIn ws (vs.take (i + 1))).map kW).map Ob.d))]) (so_nil ⟨_, _, _, rfl, rfl⟩) ?_
            rw [← e9]
            exact List.Sublist.cons₂ _ (List.nil_sublist _)
    · rintro _ _ ⟨g3, g4, g5, rfl, rfl⟩
      have e9 : vs.take (vs.map kW).length = vs := by rw [List.length_map, List.take_length]
      refine so_retS (ED.ex (ed_tupleS (ks := (wordsIn ws (vs.take (vs.map kW).length)).map kW) (j := 0) (ed_var 2) rfl T.z_tuple) ⟨_, List.nil_sublist _, ?_, rfl⟩)
      exact congrArg (fun z => Ob.d (kWs (wordsIn ws z))) e9
end
end Brd
set_option maxHeartbeats 2000000
namespace Brd
open PySem PySem.Spec PyProof.Rows L2 BM
section
variable {X : Cx} {C : Ct} {e a b c : Expr} {es : List Expr} {P P' : Pk} {o oa ob : Ob} {p pos p2 : Pos} {CX : CXT} {k : Nat}
theorem ex_draw {l : Addr} {d : Dk} {n most : Int} {j : Nat} (F : Kn CX X.prog X.w X.K X.mg X.base "_law_draw" ["_law_deck_here", "_law_most"] k (spG X.w X.K R_draw)) (hr : Room k X.A) (hx : Passes CX X E0) (ha : ED X C a (.r l)) (hb : ED X C b (.num most)) (hM : C.M[j]? = some (l, deckO d)) (hok : d.ok n) (hn : n ≤ 1000000) (h0 : 0 < most) (h1 : most < 1073741824)
    (h : ∀ (r : Nat) (d' : Dk), (r : Int) < most → d'.ok (n + 1) → P (.num r) (C.M.set j (l, deckO d'))) (hg : Gl X "_law_draw" := by rfl)
    (he : starEach [a, b] X.env = (false, eval a X.env) :: starEach [b] X.env := by rfl) (he2 : starEach [b] X.env = (false, eval b X.env) :: starEach [] X.env := by rfl) (hpl : (backTo pos (starEach [b] X.env)).any (·.1) = false := by rfl) : EX X C (.Call (.Name "_law_draw" p) [a, b] [] pos) P :=
  ex_callD F hr hx (EDs.ex (eds_cons ha (eds_cons hb eds_nil he2) he) ⟨j, l, deckO d, _, hM, ⟨l, d, n, most, hok, hn, h0, h1, rfl, rfl, rfl⟩, fun o M' ⟨r, d', r0, r1, hd, e1, e2⟩ => ⟨_, e2, by
    have e : (r.toNat : Int) = r := Int.toNat_of_nonneg r0
    subst e1
    rw [← e]
    exact h r.toNat d' (by rw [e]; exact r1) hd⟩⟩) hg (by decide) he hpl
theorem ex_intB (h : EX X C e fun o M => ∃ k, o = .bl k ∧ P (.num (if k then 1 else 0)) M) (hm : X.mg "int" = none) (hg : Gl X "int" := by rfl) (he : starEach [e] X.env = (false, eval e X.env) :: starEach [] X.env := by rfl) : EX X C (.Call (.Name "int" p) [e] [] pos) P :=
  ex_callTy call_int1 hg hm (by decide +kernel) (ea_cons (EX.mono h fun o M ⟨k, eo, pp⟩ => ea_nil fun σ H vs A r Q q => by
    subst eo
    obtain ⟨v, rfl, r1⟩ := obs1 r
    cases (show v = V.bl k from r1)
    exact .inr ⟨k, rfl, q _ M _ H pp (Tk.refl H) A (Dv.num _)⟩) he) (he := he)
theorem ed_gt {i j : Int} (ha : ED X C a (.num i)) (hb : ED X C b (.num j)) : ED X C (.Compare a [.Gt] [b] pos) (.bl (decide (j < i))) := ex_cmp op_gt (ha.ex (hb.ex (rv_int (fun _ e => ⟨rfl, e⟩) fun _ => rfl)))
/-- [..][e] of data, the list forgotten -/
theorem ed_ixNew {i : Int} {os : List Ob} {lp : Pos} (h : EDs X C es os) (hb : ∀ M, ED X { C with M := M } b (.num i)) (hat : atI os i = some o) (hz : os.length ≤ 1000 := by (simp only [List.length_cons, List.length_nil]; decide)) (hs : PlainIx b := by intro _ _; rfl) : ED X C (.Subscript (.List es lp) b pos) o :=
  EX.forget (ex_ix ix_list (ex_lst (h.ex ⟨le16 hz, fun q => ED.ex (hb _) (rv_ixL (j := C.M.length) (os := os) last_at hat ⟨rfl, List.sublist_append_left _ _⟩)⟩)) hs)
/-- [..][draw] -/
theorem ex_ixDraw {l : Addr} {d : Dk} {n : Int} {j : Nat} {os : List Ob} {lp : Pos} {most : Expr} {m : Int} (F : Kn CX X.prog X.w X.K X.mg X.base "_law_draw" ["_law_deck_here", "_law_most"] k (spG X.w X.K R_draw)) (hr : Room k X.A) (hx : Passes CX X E0) (h : EDs X C es os) (ha : ∀ M, ED X { C with M := M } a (.r l)) (hb : ∀ M, ED X { C with M := M } most (.num m)) (hM : C.M[j]? = some (l, deckO d)) (hok : d.ok n) (hn : n ≤ 1000000) (h0 : 0 < m) (h1 : m < 1073741824) (hlen : m ≤ (os.length : Int)) (hz : os.length ≤ 1000)
    (hp : ∀ (r : Nat) (d' : Dk) (o : Ob), os[r]? = some o → d'.ok (n + 1) → P o (C.M.set j (l, deckO d'))) (hs : PlainIx (.Call (.Name "_law_draw" p) [a, most] [] p2) := by intro _ _; rfl) (hg : Gl X "_law_draw" := by rfl)
    (he : starEach [a, most] X.env = (false, eval a X.env) :: starEach [most] X.env := by rfl) (he2 : starEach [most] X.env = (false, eval most X.env) :: starEach [] X.env := by rfl) (hpl : (backTo p2 (starEach [most] X.env)).any (·.1) = false := by rfl) : EX X C (.Subscript (.List es lp) (.Call (.Name "_law_draw" p) [a, most] [] p2) pos) P := by
  have hj : j < C.M.length := (List.getElem?_eq_some_iff.mp hM).1
  refine EX.sub (P := fun o M => ∃ q r d', os[r]? = some o ∧ d'.ok (n + 1) ∧ M = C.M.set j (l, deckO d') ++ [(q, Mo.l os)]) (ex_ix ix_list (ex_lst (h.ex ⟨le16 hz, fun q => ex_draw (j := j) F hr hx (ha _) (hb _) (by rw [List.getElem?_append_left hj]; exact hM) hok hn h0 h1 (fun r d' hr' hd => ?_) hg he he2 hpl⟩)) hs) fun o M ⟨q, r, d', e1, hd, e2⟩ => ⟨_, by rw [e2]; exact List.sublist_append_left _ _, hp r d' o e1 hd⟩
  have hrl : r < os.length := by omega
  have e9 : (C.M ++ [(q, Mo.l os)]).set j (l, deckO d') = C.M.set j (l, deckO d') ++ [(q, Mo.l os)] := List.set_append_left _ _ hj
  refine rv_ixL (j := C.M.length) (os := os) (o := os[r]) ?_ (atI_nat (List.getElem?_eq_getElem hrl)) ⟨q, r, d', List.getElem?_eq_getElem hrl, hd, e9⟩
  show ((C.M ++ [(q, Mo.l os)]).set j (l, deckO d'))[C.M.length]? = _
  rw [e9]
  have : C.M.length = (C.M.set j (l, deckO d')).length := by rw [List.length_set]
  rw [this]
  simp
end
section
variable {P : Program} {w : World} {K : PySem.W.Frag} {mg : Str → Option Value} {base : Heap}
/-! ### _law_any_slide -/
theorem sc_any : FnScope ["_law_deck_here", "_law_many", "_law_layers", "_law_way", "_law_at"] ["_law_deck_here", "_law_many", "_law_layers"] (defScope (top 49)) := ⟨rfl, rfl, rfl, by decide +kernel, rfl, by decide +kernel, by decide +kernel⟩
def R_any : List Ob → Ms → Pk → Prop := fun os M post => ∃ (l : Addr) (d : Dk) (n : Int) (many : Nat) (ls : List Lay), d.ok n ∧ n ≤ 900000 ∧ many ≤ 1000 ∧ ls.length ≤ 1000 ∧ os = [.r l, .num many, .d (kLs ls)] ∧ M = [(l, deckO d)] ∧ post = fun o' M' => ∃ (s : Sl) (d' : Dk), d'.ok (n + 4) ∧ o' = .d (kSl s) ∧ M' = [(l, deckO d')]
theorem two_at' {x y : Str} {r : Nat} {o : Ob} (h : [Ob.text x, Ob.text y][r]? = some o) : ∃ b : Bool, o = .text (if b then x else y) := by
  match r, h with
  | 0, h => cases h; exact ⟨true, rfl⟩
  | 1, h => cases h; exact ⟨false, rfl⟩
theorem kn_any (T : Txt w K mg) : Kn CX0 P w K mg base "_law_any_slide" ["_law_deck_here", "_law_many", "_law_layers"] 2 (spG w K R_any) := by
  refine kn_mk (T.d 35 _ rfl) (T.g 35 _ rfl) sc_any (fun fd F => F.bindsN fun _ _ _ _ _ _ us hl => match us, hl with | [_, _, _], _ => rfl) ?_ ?_
  · rintro _ _ _ ⟨_, _, _, _, _, _, _, _, _, rfl, _⟩; rfl
  · rintro cdv A outer s H E _ _ _ hr ⟨l, d, n, many, ls, hok, hn, hmany, hls, rfl, rfl, rfl⟩
    have hlen : ((ls.map kL).length : Int) = ls.length := by rw [List.length_map]
    refine so_asg 3 (ex_draw (j := 0) (kn_draw T) hr pass0 (ed_var 0) ed_int rfl hok (by omega) (by decide) (by decide) fun w1 d1 hw1 hok1 => ?_) sc_any.nd
    refine so_asg 4 (ex_draw (j := 0) (kn_draw T) hr pass0 (ed_var 0) (ed_add (ed_len (ks := ls.map kL) (ed_var 2) T.z_len) ed_int) rfl hok1 (by omega) (by omega) (by omega) fun at_ d2 hat hok2 => ?_) sc_any.nd
    refine so_ifK (eb_lt (ed_var 3) ed_int) (fun h => ?_) fun h => so_nil ?_
    · refine so_ret (ex_tup (ea_cons (ED.ex ed_str (ea_cons (ED.ex (ed_var 4) (ea_cons (ex_ixDraw (j := 0) (kn_draw T) hr pass0 (eds_cons ed_str (eds_cons ed_str eds_nil)) (fun M => ed_var 0) (fun M => ed_int) rfl hok2 (by omega) (by decide) (by decide) (by decide) (by decide) fun r d3 o ho hok3 => ?_)))))))
      obtain ⟨b, rfl⟩ := two_at' ho
      exact ea_nil ⟨[.text "turn", .num at_, .text (if b then "left" else "right")], rfl, le16 (show 3 ≤ 1000 by decide), .turn at_ b, d3, hok3.le (by omega), rfl, rfl⟩
    refine so_ifK (eb_lt (ed_var 3) ed_int) (fun h => ?_) fun h => so_nil ?_
    · exact so_ret (ED.ex (ed_tk (ek (k := .text "pair") ed_str (ek (k := .num at_) (ed_var 4) ek0))) ⟨.pair at_, d2, hok2.le (by omega), rfl, rfl⟩)
    refine so_ifK (eb_lt (ed_var 3) ed_int) (fun h => ?_) fun h => so_nil ?_
    · exact so_ret (ED.ex (ed_tk (ek (k := .text "three") ed_str (ek (k := .num at_) (ed_var 4) ek0))) ⟨.three at_, d2, hok2.le (by omega), rfl, rfl⟩)
    refine so_ret (ex_tup (ea_cons (ED.ex ed_str (ea_cons (ED.ex (ed_var 4) (ea_cons (ex_draw (j := 0) (kn_draw T) hr pass0 (ed_var 0) (ed_max rfl ed_int (ed_sub (ed_var 1) ed_int) T.z_max) rfl hok2 (by omega) (by split <;> omega) (by split <;> omega) fun pl d3 hpl hok3 => ea_cons (ex_ixDraw (j := 0) (kn_draw T) hr pass0 (eds_cons ed_str (eds_cons ed_str eds_nil)) (fun M => ed_var 0) (fun M => ed_int) rfl hok3 (by omega) (by decide) (by decide) (by decide) (by decide) fun r d4 o ho hok4 => ?_))))))))
    obtain ⟨b, rfl⟩ := two_at' ho
    exact ea_nil ⟨[.text "twine", .num at_, .num pl, .text (if b then "over" else "under")], rfl, le16 (show 4 ≤ 1000 by decide), .twine at_ pl b, d4, hok4.le (by omega), rfl, rfl⟩
end
end Brd
set_option maxHeartbeats 4000000
namespace Brd
open PySem PySem.Spec PyProof.Rows L2 BM
/-- the state written anew -/
theorem SO.at {X : Cx} {z : Zx} {C : Ct} {sts : List Stmt} {ae : AE} (W : List Addr) (H0 : Hp) (G : Gm) (M : Ms) (h : SO X z ⟨W, H0, G, M⟩ sts ae) (e : C = ⟨W, H0, G, M⟩) : SO X z C sts ae := e ▸ h
section
variable {X : Cx} {C : Ct} {a b : Expr} {P : Pk} {pos p2 : Pos} {xs : List Ob} {l : Addr} {j : Nat}
theorem ex_fromL (i : Nat) (ha : ED X C a (.r l)) (hM : C.M[j]? = some (l, Mo.l xs)) (hb : ED X C b (.num i)) (pp : ∀ q, P (.r q) (C.M ++ [(q, Mo.l (xs.drop i))])) : EX X C (.Subscript a (.Slice (some b) none none p2) pos) P :=
  ex_sliceL (lo := some b) (hi := none) (ha.ex ⟨l, j, xs, some (i : Int), none, rfl, hM, ⟨_, rfl, hb⟩, rfl, fun q => by rw [cut_n0]; exact pp q⟩)
theorem ex_toLd (i : Nat) (ha : ED X C a (.r l)) (hM : C.M[j]? = some (l, Mo.l xs)) (hb : ED X C b (.num i)) (pp : ∀ q, P (.r q) (C.M ++ [(q, Mo.l (xs.take i))])) : EX X C (.Subscript a (.Slice none (some b) none p2) pos) P :=
  ex_sliceL (lo := none) (hi := some b) (ha.ex ⟨l, j, xs, none, some (i : Int), rfl, hM, rfl, ⟨_, rfl, hb⟩, fun q => by rw [cut_0n]; exact pp q⟩)
end
section
variable {P : Program} {w : World} {K : PySem.W.Frag} {mg : Str → Option Value} {base : Heap}
/-! ### _law_kit -/
theorem sc_kit : FnScope ["_law_deck_here", "_law_manner", "_law_great", "_law_turn", "_law_names", "_law_sorts", "_law_words", "_law_boxes", "_law_name"] ["_law_deck_here", "_law_manner"] (defScope (top 39)) := ⟨rfl, rfl, rfl, by decide +kernel, rfl, by decide +kernel, by decide +kernel⟩
def R_kit : List Ob → Ms → Pk → Prop := fun os M post => ∃ (l : Addr) (d : Dk) (n : Int), d.ok n ∧ n ≤ 900000 ∧ os = [.r l, .text "braid"] ∧ M = [(l, deckO d)] ∧ post = fun o' M' => ∃ (ss : List Str) (d' : Dk), 1 ≤ ss.length ∧ ss.length ≤ 4 ∧ d'.ok (n + 4) ∧ o' = .d (kK ss) ∧ M' = [(l, deckO d')]
def txO (ss : List Str) : List Ob := (ss.map NestedKey.text).map .d
theorem txO_take (ss : List Str) (n : Nat) : (txO ss).take n = txO (ss.take n) := by unfold txO; rw [List.map_take, List.map_take]
theorem txO_drop (ss : List Str) (n : Nat) : (txO ss).drop n = txO (ss.drop n) := by unfold txO; rw [List.map_drop, List.map_drop]
theorem txO_app (a b : List Str) : txO a ++ txO b = txO (a ++ b) := by unfold txO; rw [List.map_append, List.map_append]
theorem six_at {r : Nat} (h : r < 6) : ∃ n : Nat, [Ob.num 1, Ob.num 1, Ob.num 2, Ob.num 2, Ob.num 3, Ob.num 4][r]? = some (.num n) ∧ 1 ≤ n ∧ n ≤ 4 := by
  match r, h with
  | 0, _ => exact ⟨1, rfl, by decide, by decide⟩
  | 1, _ => exact ⟨1, rfl, by decide, by decide⟩
  | 2, _ => exact ⟨2, rfl, by decide, by decide⟩
  | 3, _ => exact ⟨2, rfl, by decide, by decide⟩
  | 4, _ => exact ⟨3, rfl, by decide, by decide⟩
  | 5, _ => exact ⟨4, rfl, by decide, by decide⟩
theorem le8 : 8 ≤ sizeLine := by decide
theorem kn_kit (T : Txt w K mg) : Kn CX0 P w K mg base "_law_kit" ["_law_deck_here", "_law_manner"] 2 (spG w K R_kit) := by
  refine kn_mk (T.d 25 _ rfl) (T.g 25 _ rfl) sc_kit (fun fd F => F.bindsN fun _ _ _ _ _ _ us hl => match us, hl with | [_, _], _ => rfl) ?_ ?_
  · rintro _ _ _ ⟨_, _, _, _, _, rfl, _⟩; rfl
  · rintro cdv A outer s H E _ _ _ hr ⟨l, d, n, hok, hn, rfl, rfl, rfl⟩
    refine so_asg 2 (ex_intB (ex_cmp op_eq (ex_draw (j := 0) (kn_draw T) hr pass0 (ed_var 0) ed_int rfl hok (by omega) (by decide) (by decide) fun w1 d1 hw1 hok1 => ED.ex ed_int (rv_eqI fun k e => ⟨k, rfl, ?_⟩))) T.z_int) sc_kit.nd
    refine so_asg 3 (ex_draw (j := 0) (kn_draw T) hr pass0 (ed_var 0) ed_int rfl hok1 (by omega) (by decide) (by decide) fun r2 d2 hr2 hok2 => ?_) sc_kit.nd
    refine so_asg 4 (ex_lst (EDs.ex (eds_cons ed_str (eds_cons ed_str (eds_cons ed_str (eds_cons ed_str eds_nil)))) ⟨Nat.le_trans (show 4 ≤ 8 by decide) le8, fun q4 => ?_⟩)) sc_kit.nd
    have hg1 : (0 : Int) ≤ (if k then 1 else 0) ∧ (if k then 1 else 0 : Int) ≤ 1 := by cases k <;> decide
    have hr2' : r2 < 4 := by omega
    have e1 : (txO ["a", "ab", "b", "boxa"]).drop r2 ++ (txO ["a", "ab", "b", "boxa"]).take r2 = txO ((["a", "ab", "b", "boxa"] : List Str).drop r2 ++ (["a", "ab", "b", "boxa"] : List Str).take r2) := by
      rw [txO_drop, txO_take, txO_app]
    have e2 : ((["a", "ab", "b", "boxa"] : List Str).drop r2 ++ (["a", "ab", "b", "boxa"] : List Str).take r2).length = 4 := by
      rw [List.length_append, List.length_drop, List.length_take]; simp only [List.length_cons, List.length_nil]; omega
    obtain ⟨nm, hnm⟩ : ∃ nm, nm = (["a", "ab", "b", "boxa"] : List Str).drop r2 ++ (["a", "ab", "b", "boxa"] : List Str).take r2 := ⟨_, rfl⟩
    rw [← hnm] at e1 e2
    refine so_asg 5 (ex_tupleL (ex_toL (ex_catL (ex_fromL (j := 1) (xs := txO ["a", "ab", "b", "boxa"]) r2 (ed_var 4) rfl (ed_var 3) fun qa => ex_toLd (j := 1) (xs := txO ["a", "ab", "b", "boxa"]) r2 (ed_var 4) rfl (ed_var 3) fun qb => ⟨qa, qb, 2, 3, _, _, rfl, rfl, rfl, rfl, ?_, fun qc => ex_ixDraw (j := 0) (kn_draw T) hr pass0 (eds_cons ed_int (eds_cons ed_int (eds_cons ed_int (eds_cons ed_int (eds_cons ed_int (eds_cons ed_int eds_nil)))))) (fun M => ed_var 0) (fun M => ed_add ed_int (ed_var 2)) rfl hok2 (by omega) (by omega) (by omega) (by show _ ≤ (6 : Int); omega) (by decide) fun r3 d3 o3 ho3 hok3 => ?_⟩))) T.z_tuple) sc_kit.nd
    · rw [← List.length_append, e1]
      unfold txO
      rw [List.length_map, List.length_map, e2]
      exact le16 (by decide)
    have hr3 : r3 < 6 := (List.getElem?_eq_some_iff.mp ho3).1
    obtain ⟨m3, hm3, m1, m4⟩ := six_at hr3
    rw [hm3] at ho3
    cases ho3
    refine ⟨qc, 4, txO nm, m3, rfl, rfl, ?_, fun qe => ⟨qe, 5, (nm.take m3).map .text, rfl, ?_, ?_⟩⟩
    · exact congrArg (fun z => some (qc, Mo.l z)) e1
    · exact congrArg (fun z => some (qe, Mo.l z)) (txO_take nm m3)
    have hl3 : (nm.take m3).length = m3 := by rw [List.length_take, e2]; omega
    refine so_drop (M := [(l, deckO d3)]) ?_ (List.Sublist.cons₂ _ (List.nil_sublist _))
    refine SO.at [l] H [some (.r l), some (.text "braid"), some (.num (if k then 1 else 0)), some (.num r2), some (.r q4), some (.d (kSs (nm.take m3))), none, none, none] [(l, deckO d3)] ?_ rfl
    refine so_asg 6 (ex_lst (EDs.ex (eds_cons ed_str (eds_cons ed_str (eds_cons ed_str (eds_cons ed_str (eds_cons ed_str (eds_cons ed_str (eds_cons ed_str (eds_cons ed_str eds_nil)))))))) ⟨le8, fun q6 => ?_⟩)) sc_kit.nd
    refine so_asg 3 (ex_draw (j := 0) (kn_draw T) hr pass0 (ed_var 0) ed_int rfl hok3 (by omega) (by decide) (by decide) fun r4 d4 hr4 hok4 => ?_) sc_kit.nd
    refine so_asg 7 (ex_lst (ea_nil ⟨Nat.zero_le _, fun q7 => ?_⟩)) sc_kit.nd
    refine so_ifF (EB.cast (eb_neS (ed_var 1) ed_str) (by decide)) ?_
    refine so_retS (ED.ex (ed_tk (ek (k := .text "braid") (ed_var 1) (ek (k := kSs (nm.take m3)) (ed_var 5) (ek (k := .tup []) (ed_tupleS (ks := []) (j := 2) (ed_var 7) rfl T.z_tuple) ek0)))) ⟨[(l, deckO d4)], List.Sublist.cons₂ _ (List.nil_sublist _), nm.take m3, d4, by omega, by omega, hok4.le (by omega), rfl, rfl⟩)
end
end Brd
set_option maxHeartbeats 4000000
namespace Brd
open PySem PySem.Spec PyProof.Rows L2 BM
theorem ed_addN (n m : Nat) {X : Cx} {C : Ct} {a b : Expr} {pos : Pos} (ha : ED X C a (.num n)) (hb : ED X C b (.num m)) : ED X C (.BinOp a .Add b pos) (.num ((n + m : Nat) : Int)) := ED.cast (ed_add ha hb) (by rw [Int.natCast_add])
theorem IR.congr {X : Cx} {C : Ct} {tg iter : Expr} {n : Nat} {f g : Nat → Ob} (h : IR X C tg iter n f) (e : ∀ i, i < n → f i = g i) : IR X C tg iter n g := by
  obtain ⟨wi, hp, q⟩ := h
  exact ⟨wi, hp, fun σ H A R q' => q σ H A R fun J H1 Sd t A1 sd m st go yl => q' J H1 Sd t A1 sd m st go fun i H2 x H3 s hi y => by
    have := yl i H2 x H3 s hi y
    rw [e i hi] at this
    exact this⟩
section
variable {P : Program} {w : World} {K : PySem.W.Frag} {mg : Str → Option Value} {base : Heap}
/-! ### _law_sorts_below -/
theorem sc_sbel : FnScope ["_law_above", "_law_layers", "_law_row", "_law_place", "_law_step"] ["_law_above", "_law_layers"] (defScope (top 51)) := ⟨rfl, rfl, rfl, by decide +kernel, rfl, by decide +kernel, by decide +kernel⟩
def G_sbel : List Ob → Ob → Prop := fun os o => ∃ (ab : List Str) (ls : List Lay), ab.length ≤ 100 ∧ Valid ab.length ls ∧ os = [.d (kSs ab), .d (kLs ls)] ∧ o = .d (kSs (bel ab ls))
theorem txt_at {ss : List Str} {i : Nat} {x : Str} (h : ss[i]? = some x) : atI (ss.map NestedKey.text) (i : Int) = some (.text x) := atI_nat (by rw [List.getElem?_map, h]; rfl)
theorem kn_sbel (T : Txt w K mg) : Kn CX0 P w K mg base "_law_sorts_below" ["_law_above", "_law_layers"] 1 (spG w K (RD G_sbel)) := by
  refine kn_mk (T.d 37 _ rfl) (T.g 37 _ rfl) sc_sbel (fun fd F => F.bindsN fun _ _ _ _ _ _ us hl => match us, hl with | [_, _], _ => rfl) ?_ ?_
  · rintro _ _ _ ⟨_, _, ⟨_, _, _, _, rfl, _⟩, _⟩; rfl
  · rintro cdv A outer s H E _ _ _ hr ⟨rfl, _, ⟨ab, ls, hab, hv, rfl, rfl⟩, rfl⟩
    refine so_asg 2 (ED.ex (ed_var 0) ?_) sc_sbel.nd
    refine so_forT PassesOwn.never rfl (ks := ls.map kL) (ed_var 1) (fun i G M => ∃ g3 g4, G = [some (.d (kSs ab)), some (.d (kLs ls)), some (.d (kSs (bel ab (ls.take i)))), g3, g4] ∧ M = []) ⟨none, none, rfl, rfl⟩ ?_ ?_
    · rintro i kk _ _ hkk ⟨g3, g4, rfl, rfl⟩
      rw [List.getElem?_map] at hkk
      obtain ⟨lay, hx, rfl⟩ := Option.map_eq_some_iff.mp hkk
      have hl : lay.1 + 1 < ab.length := hv lay (List.mem_of_getElem? hx)
      obtain ⟨row, hrow⟩ : ∃ row, row = bel ab (ls.take i) := ⟨_, rfl⟩
      have bl : row.length = ab.length := by rw [hrow]; exact bel_len rfl fun x hx => hv x (List.mem_of_mem_take hx)
      have e9 : sbel row lay = bel ab (ls.take (i + 1)) := by rw [take_snoc hx, bel_snoc, hrow]
      rw [← hrow]
      obtain ⟨x, y, hx0, hy0, _⟩ := two_at (row := row) (p := lay.1) (by omega)
      refine go_tup (ks := [.num lay.1, kS lay.2]) rfl (gos_cons (go_name 3 (gos_cons (go_name 4 (gos_nil ?_) sc_sbel.nd)) sc_sbel.nd))
      have hz1 : ((row.map NestedKey.text).take lay.1).length + [NestedKey.text y, NestedKey.text x].length ≤ sizeLine := by rw [List.length_take]; exact le16 (by simp only [List.length_cons, List.length_nil]; omega)
      have hz2 : ((row.map NestedKey.text).take lay.1 ++ [NestedKey.text y, NestedKey.text x]).length + ((row.map NestedKey.text).drop (lay.1 + 2)).length ≤ sizeLine := by
        rw [List.length_append, List.length_take, List.length_drop, List.length_map]; exact le16 (by simp only [List.length_cons, List.length_nil]; omega)
      have e8 : Ob.tup (((row.map NestedKey.text).take lay.1 ++ [NestedKey.text y, NestedKey.text x]) ++ (row.map NestedKey.text).drop (lay.1 + 2)) = .d (kSs (bel ab (ls.take (i + 1)))) := by
        rw [← e9, sbel_eq (by omega) hx0 hy0]
        unfold kSs
        rw [List.map_append, List.map_append, List.map_take, List.map_drop]
        rfl
      refine so_asg 2 (ED.ex (ED.cast (ed_catT (ed_catT (ls := [.text y, .text x]) (ed_to lay.1 (ks := row.map .text) (ed_var 2) (ed_var 3)) (ed_tk (ek (k := .text y) (ed_ix (ks := row.map .text) (ed_var 2) (ed_addN lay.1 1 (ed_var 3) ed_int) (txt_at hy0)) (ek (k := .text x) (ed_ix (ks := row.map .text) (ed_var 2) (ed_var 3) (txt_at hx0)) ek0))) hz1) (ed_from (lay.1 + 2) (ks := row.map .text) (ed_var 2) (ed_addN lay.1 2 (ed_var 3) ed_int)) hz2) e8) ?_) sc_sbel.nd
      exact so_nil ⟨_, _, rfl, rfl⟩
    · rintro _ _ ⟨g3, g4, rfl, rfl⟩
      have e9 : ls.take (ls.map kL).length = ls := by rw [List.length_map, List.take_length]
      refine so_ret (ED.ex (ed_var 2) ⟨?_, rfl⟩)
      exact congrArg (fun z => Ob.d (kSs (bel ab z))) e9
/-! ### _law_undone -/
theorem sc_und : FnScope ["_law_layers", "_law_place", "_law_step"] ["_law_layers"] (defScope (top 50)) := ⟨rfl, rfl, rfl, by decide +kernel, rfl, by decide +kernel, by decide +kernel⟩
def G_und : List Ob → Ob → Prop := fun os o => ∃ (ls : List Lay), ls.length ≤ 1000 ∧ os = [.d (kLs ls)] ∧ o = .d (kLs (undone ls))
theorem turned_at (b : Bool) : atI [Ob.text "over", Ob.text "under"] (if b then 1 else 0) = some (.text (stS (!b))) := by cases b <;> rfl
theorem kn_und (T : Txt w K mg) : Kn CX0 P w K mg base "_law_undone" ["_law_layers"] 1 (spG w K (RD G_und)) := by
  refine kn_mk (T.d 36 _ rfl) (T.g 36 _ rfl) sc_und (fun fd F => F.bindsN fun _ _ _ _ _ _ us hl => match us, hl with | [_], _ => rfl) ?_ ?_
  · rintro _ _ _ ⟨_, _, ⟨_, _, rfl, _⟩, _⟩; rfl
  · rintro cdv A outer s H E _ _ _ hr ⟨rfl, _, ⟨ls, hls, rfl, rfl⟩, rfl⟩
    have hlen : (ls.map kL).reverse.length = ls.length := by rw [List.length_reverse, List.length_map]
    have key : (List.range (ls.map kL).reverse.length).map (fun i => kL ((undone ls).getD i (0, true))) = (undone ls).map kL := by
      have := map_range (fun i => kL ((undone ls).getD i (0, true))) ((undone ls).map kL) (fun i hi => by
        rw [List.length_map] at hi
        rw [List.getElem?_map, List.getD_eq_getElem?_getD, List.getElem?_eq_getElem hi]
        rfl)
      rw [List.length_map] at this
      have e : (undone ls).length = ls.length := by simp [undone]
      rw [hlen, ← e]
      exact this
    have hit : ∀ i, i < ls.length → (ls.map kL).reverse.getD i .none = kL (ls.reverse.getD i (0, true)) ∧ (undone ls).getD i (0, true) = ((ls.reverse.getD i (0, true)).1, !(ls.reverse.getD i (0, true)).2) := fun i hi => by
      have h1 : i < ls.reverse.length := by rw [List.length_reverse]; exact hi
      unfold undone
      rw [← List.map_reverse, List.getD_eq_getElem?_getD, List.getD_eq_getElem?_getD, List.getD_eq_getElem?_getD, List.getElem?_map, List.getElem?_map, List.getElem?_eq_getElem h1]
      exact ⟨rfl, rfl⟩
    refine so_ret (ED.ex (ed_tupleN (EX.mono (ed_lc2 (y := "_law_place") (y2 := "_law_step") (i1 := fun i => .num (ls.reverse.getD i (0, true)).1) (i2 := fun i => kS (ls.reverse.getD i (0, true)).2) (n := (ls.map kL).reverse.length) 1 2 (fun i => kL ((undone ls).getD i (0, true))) (by decide) rfl sc_und.nd (blkOk_by (N := ["_law_layers", "_law_place", "_law_step"]) (sc := defScope (top 50)) (by decide +kernel)) (by rw [hlen]; exact le16 hls) (fun _ _ _ _ _ => pg_tup rfl (pgs_cons (pg_name (i := 1) sc_und.nd rfl (Or.inl rfl)) (pgs_cons (pg_name (i := 2) sc_und.nd rfl (Or.inl rfl)) pgs_nil))) ?_ ?_) fun o M ⟨l, e1, e2⟩ => ⟨l, e1, by rw [e2, key]⟩) T.z_tuple) ⟨rfl, rfl⟩)
    · exact IR.congr (ir_tup (ks := (ls.map kL).reverse) (ed_rev (ks := ls.map kL) (ed_var 0))) fun i hi => by
        rw [hlen] at hi
        rw [(hit i hi).1]
        rfl
    · intro i M hi s H Cc cl fp
      rw [hlen] at hi
      obtain ⟨h1, h2⟩ := hit i hi
      refine ED.cast (ed_tk (ek (k := .num (ls.reverse.getD i (0, true)).1) (ed_var 1) (ek (k := kS (!(ls.reverse.getD i (0, true)).2)) (ed_tk (ek (k := .text (stS (!(ls.reverse.getD i (0, true)).2))) (ed_ixNew (eds_cons ed_str (eds_cons ed_str eds_nil)) (fun M => ed_intB (ED.cast (ed_eqT (ks := [.text (stS (ls.reverse.getD i (0, true)).2)]) (ls := [.text "over"]) (hu64 hr) (ed_var 2) (ed_tk (ek ed_str ek0)) (dp_st _)) (congrArg Ob.bl (dec_step _))) T.z_int) (turned_at _)) ek0)) ek0))) ?_
      rw [h2]
      rfl
end
end Brd
set_option maxHeartbeats 4000000
namespace Brd
open PySem PySem.Spec PyProof.Rows L2 BM
section
variable {P : Program} {w : World} {K : PySem.W.Frag} {mg : Str → Option Value} {base : Heap}
/-! ### _law_braid -/
theorem sc_lbr : FnScope ["_law_deck_here", "_law_kit_here", "_law_many", "_law_most", "_law_k", "_law_above", "_law_layers", "_law_place", "_law_step", "_law_next_one"] ["_law_deck_here", "_law_kit_here", "_law_many", "_law_most"] (defScope (top 48)) := ⟨rfl, rfl, rfl, by decide +kernel, rfl, by decide +kernel, by decide +kernel⟩
def R_lbr : List Ob → Ms → Pk → Prop := fun os M post => ∃ (l : Addr) (d : Dk) (n : Int) (ss : List Str) (many : Nat), d.ok n ∧ n ≤ 900000 ∧ 1 ≤ ss.length ∧ ss.length ≤ 4 ∧ 1 ≤ many ∧ many ≤ 6 ∧ os = [.r l, .d (kK ss), .num many, .num 3] ∧ M = [(l, deckO d)] ∧ post = fun o' M' => ∃ (ab : List Str) (ls : List Lay) (d' : Dk), ab.length = many ∧ Valid many ls ∧ ls.length ≤ 9 ∧ d'.ok (n + 40) ∧ o' = .d (kP ab ls) ∧ M' = [(l, deckO d')]
def lyO (ls : List Lay) : List Ob := ls.map fun x => .d (kL x)
theorem lyO_app (a b : List Lay) : lyO (a ++ b) = lyO a ++ lyO b := List.map_append
theorem kn_lbr (T : Txt w K mg) : Kn CX0 P w K mg base "_law_braid" ["_law_deck_here", "_law_kit_here", "_law_many", "_law_most"] 2 (spG w K R_lbr) := by
  refine kn_mk (T.d 34 _ rfl) (T.g 34 _ rfl) sc_lbr (fun fd F => F.bindsN fun _ _ _ _ _ _ us hl => match us, hl with | [_, _, _, _], _ => rfl) ?_ ?_
  · rintro _ _ _ ⟨_, _, _, _, _, _, _, _, _, _, _, rfl, _⟩; rfl
  · rintro cdv A outer s H E _ _ _ hr ⟨l, d, n, ss, many, hok, hn, hs1, hs4, hm1, hm6, rfl, rfl, rfl⟩
    have hline := line
    have hsl : ((ss.map NestedKey.text).length : Int) = ss.length := by rw [List.length_map]
    refine so_asg 5 (ex_tupleL (ex_lc1 4 rfl sc_lbr.nd (blkOk_by (N := ["_law_deck_here", "_law_kit_here", "_law_many", "_law_most", "_law_k", "_law_above", "_law_layers", "_law_place", "_law_step", "_law_next_one"]) (sc := defScope (top 48)) (by decide +kernel)) (n := many) (item := fun i => .num i) (by omega) (fun _ _ _ _ _ => pg_name (i := 4) sc_lbr.nd rfl (Or.inl rfl)) (ir_range (n := (many : Int)) (ed_var 2) (by omega) (by omega) T.z_range) (fun i acc M => ∃ ss' d', ss'.length = i ∧ d'.ok (n + i) ∧ acc = txO ss' ∧ M = [(l, deckO d')]) ⟨[], d, rfl, by rw [show n + ((0 : Nat) : Int) = n by omega]; exact hok, rfl, rfl⟩ ?_ ?_) T.z_tuple) sc_lbr.nd
    · rintro i acc M D hi hl ⟨ss', d', hs', hok', rfl, rfl⟩ s H Cc cl fp
      refine ex_ix ix_tup (ED.ex (ed_ix (k := kSs ss) (ks := [.text "braid", kSs ss, .tup []]) (ed_var 1) ed_int rfl) (ex_draw (j := 0) (kn_draw T) hr pass0 (ed_var 0) (ed_len (ks := ss.map .text) (ed_ix (k := kSs ss) (ks := [.text "braid", kSs ss, .tup []]) (ed_var 1) ed_int rfl) T.z_len) rfl hok' (by omega) (by omega) (by omega) fun r d2 hr2 hok2 => ?_))
      have hrl : r < ss.length := by omega
      refine rv_ixT (ks := ss.map .text) (txt_at (List.getElem?_eq_getElem hrl)) ⟨[(l, deckO d2)], rfl, ss' ++ [ss[r]], d2, by rw [List.length_append, hs']; rfl, hok2.le (by push_cast; omega), ?_, rfl⟩
      rw [← txO_app]
      rfl
    · rintro acc M D hl ⟨ab, d1, hab, hok1, rfl, rfl⟩
      refine ⟨D, 1, ab.map .text, rfl, rfl, ?_⟩
      refine so_drop (M := [(l, deckO d1)]) ?_ (List.Sublist.cons₂ _ (List.nil_sublist _))
      refine SO.at [l] H [some (.r l), some (.d (kK ss)), some (.num many), some (.num 3), none, some (.d (kSs ab)), none, none, none, none] [(l, deckO d1)] ?_ rfl
      refine so_asg 6 (ex_lst (ea_nil ⟨Nat.zero_le _, fun p0 => ?_⟩)) sc_lbr.nd
      refine so_forR (n := 0) PassesOwn.never rfl T.z_range (ex_op op_mul (ex_draw (j := 0) (kn_draw T) hr pass0 (ed_var 0) (ed_add (ed_var 3) ed_int) rfl hok1 (by omega) (by decide) (by decide) fun r d2 hr2 hok2 => ED.ex (ed_intB (ed_gt (ed_var 2) ed_int) T.z_int) (rv_intC (o := .num ((r : Int) * (if decide ((1 : Int) < many) then 1 else 0))) (by exact .inl (by omega)) (fun M eM => ?_) fun H => Dv.num _))) 
      subst eM
      refine ⟨_, rfl, ?_, ?_, fun i G M => ∃ p ls d' g4 g7 g8 g9, Valid many ls ∧ ls.length ≤ 3 * i ∧ d'.ok (n + 7 + 5 * i) ∧ G = [some (.r l), some (.d (kK ss)), some (.num many), some (.num 3), g4, some (.d (kSs ab)), some (.r p), g7, g8, g9] ∧ M = [(l, deckO d'), (p, Mo.l (lyO ls))], ⟨p0, [], d2, none, none, none, none, (fun x hx => absurd hx List.not_mem_nil), Nat.zero_le _, hok2.le (by push_cast; omega), rfl, rfl⟩, ?_, ?_⟩
      · split <;> omega
      · split <;> omega
      · rintro i _ _ hi ⟨p, ls, d3, g4, g7, g8, g9, hv, hll, hok3, rfl, rfl⟩
        have hmany : 2 ≤ many ∧ i < 3 := by
          by_cases h : (1 : Int) < many
          · rw [decide_eq_true h] at hi
            simp only [if_true] at hi
            omega
          · rw [decide_eq_false h] at hi
            simp only [Bool.false_eq_true, if_false] at hi
            omega
        obtain ⟨hm2, hi3⟩ := hmany
        refine go_name 4 ?_ sc_lbr.nd
        refine so_asg 7 (ex_draw (j := 0) (kn_draw T) hr pass0 (ed_var 0) (ed_sub (ed_var 2) ed_int) rfl hok3 (by omega) (by omega) (by omega) fun pl d4 hpl hok4 => ?_) sc_lbr.nd
        refine so_asg 8 (ex_tup (ea_cons (ex_ixDraw (j := 0) (kn_draw T) hr pass0 (eds_cons ed_str (eds_cons ed_str eds_nil)) (fun M => ed_var 0) (fun M => ed_int) rfl hok4 (by omega) (by decide) (by decide) (by decide) (by decide) fun r5 d5 o5 ho5 hok5 => ?_))) sc_lbr.nd
        obtain ⟨b, rfl⟩ := two_at' ho5
        refine ea_nil ⟨[.text (stS b)], rfl, le16 (show 1 ≤ 1000 by decide), ?_⟩
        have hpl2 : pl + 1 < many := by omega
        refine SO.at [l] H [some (.r l), some (.d (kK ss)), some (.num many), some (.num 3), some (.num i), some (.d (kSs ab)), some (.r p), some (.num pl), some (.d (kS b)), g9] [(l, deckO d5), (p, Mo.l (lyO ls))] ?_ rfl
        have hv2 : Valid many (ls ++ [(pl, b)]) := fun x hx => by
          rcases List.mem_append.mp hx with hx | hx
          · exact hv x hx
          · rw [List.mem_singleton] at hx; subst hx; exact hpl2
        have hlyl : (lyO ls).length = ls.length := by unfold lyO; rw [List.length_map]
        have eL : lyO ls ++ [Ob.tup [.num pl, kS b]] = lyO (ls ++ [(pl, b)]) := by unfold lyO; rw [List.map_append]; rfl
        refine so_expr (ex_append (ED.ex (ed_var 6) ⟨p, 1, lyO ls, rfl, rfl, ea_cons (ED.ex (ed_tk (ek (k := .num pl) (ed_var 7) (ek (k := kS b) (ed_var 8) ek0))) (ea_nil ⟨1, lyO ls, _, rfl, rfl, by omega, ?_⟩))⟩))
        refine SO.at [l] H [some (.r l), some (.d (kK ss)), some (.num many), some (.num 3), some (.num i), some (.d (kSs ab)), some (.r p), some (.num pl), some (.d (kS b)), g9] [(l, deckO d5), (p, Mo.l (lyO (ls ++ [(pl, b)])))] ?_ (congrArg (fun z => (⟨[l], H, [some (.r l), some (.d (kK ss)), some (.num many), some (.num 3), some (.num i), some (.d (kSs ab)), some (.r p), some (.num pl), some (.d (kS b)), g9], [(l, deckO d5), (p, Mo.l z)]⟩ : Ct)) eL)
        refine so_if (et_w (ew_and (et_cmp op_eq (ex_draw (j := 0) (kn_draw T) hr pass0 (ed_var 0) ed_int rfl hok5 (by omega) (by decide) (by decide) fun r6 d6 hr6 hok6 => ED.ex ed_int (rv_eqI fun k e => ⟨k, rfl, ?_⟩)))))
        have fin : ∀ G2 M2, ∀ dd : Dk, dd.ok (n + 7 + 5 * (i + 1 : Nat)) → ∀ (g9' : Option Ob), ∀ (p' : Addr) (ls' : List Lay), Valid many ls' → ls'.length ≤ 3 * (i + 1) → G2 = [some (.r l), some (.d (kK ss)), some (.num many), some (.num 3), some (.num i), some (.d (kSs ab)), some (.r p'), some (.num pl), some (.d (kS b)), g9'] → M2 = [(l, deckO dd), (p', Mo.l (lyO ls'))] → ∃ p ls d' g4 g7 g8 g9, Valid many ls ∧ ls.length ≤ 3 * (i + 1) ∧ d'.ok (n + 7 + 5 * (i + 1 : Nat)) ∧ G2 = [some (.r l), some (.d (kK ss)), some (.num many), some (.num 3), g4, some (.d (kSs ab)), some (.r p), g7, g8, g9] ∧ M2 = [(l, deckO d'), (p, Mo.l (lyO ls))] :=
          fun G2 M2 dd h1 g9' p' ls' h2 h3 e1 e2 => ⟨p', ls', dd, _, _, _, g9', h2, h3, h1, e1, e2⟩
        have hlen1 : (ls ++ [(pl, b)]).length = ls.length + 1 := by rw [List.length_append]; rfl
        cases k with
        | false =>
          exact iteF (@iteF _ (_) (so_nil (so_nil (fin _ _ d6 (hok6.le (by push_cast; omega)) g9 p _ hv2 (by omega) rfl rfl))))
        | true =>
          refine iteT (ew_and1 (EB.ex (eb_gt (ed_var 2) ed_int) ?_))
          by_cases h2 : (2 : Int) < many
          · rw [decide_eq_true h2]
            refine @iteT _ (_) ?_
            obtain ⟨nx, hnx, hnx2⟩ : ∃ nx : Nat, (pl : Int) + 1 - 2 * (if decide ((pl : Int) = (many : Int) - 2) then 1 else 0) = nx ∧ nx + 1 < many := by
              by_cases h3 : (pl : Int) = (many : Int) - 2
              · refine ⟨pl - 1, ?_, by omega⟩
                rw [decide_eq_true h3]; simp only [if_true]; omega
              · refine ⟨pl + 1, ?_, by omega⟩
                rw [decide_eq_false h3]; simp only [Bool.false_eq_true, if_false]; omega
            refine so_asg 9 (ED.ex (ED.cast (ed_sub (ed_add (ed_var 7) ed_int) (ed_mul ed_int (ed_intB (ed_eqI (ed_var 7) (ed_sub (ed_var 2) ed_int)) T.z_int) (.inl (by decide)))) (congrArg Ob.num hnx)) ?_) sc_lbr.nd
            refine so_asg 6 (ex_catL (ED.ex (ed_var 6) (ex_lst (ea_cons (ex_tup (ea_cons (ED.ex (ed_var 9) (ea_cons (ex_tup (ea_cons (ex_ixDraw (j := 0) (kn_draw T) hr pass0 (eds_cons ed_str (eds_cons ed_str eds_nil)) (fun M => ed_var 0) (fun M => ed_int) rfl hok6 (by omega) (by decide) (by decide) (by decide) (by decide) fun r7 d7 o7 ho7 hok7 => ?_))))))))))) sc_lbr.nd
            obtain ⟨b2, rfl⟩ := two_at' ho7
            have hv3 : Valid many ((ls ++ [(pl, b)]) ++ [(nx, b2), (pl, b)]) := fun x hx => by
              rcases List.mem_append.mp hx with hx | hx
              · exact hv2 x hx
              · simp only [List.mem_cons, List.not_mem_nil, or_false] at hx
                rcases hx with rfl | rfl
                · exact hnx2
                · exact hpl2
            have hlen2 : ((ls ++ [(pl, b)]) ++ [(nx, b2), (pl, b)]).length = ls.length + 3 := by rw [List.length_append, hlen1]; rfl
            have hly2 : (lyO (ls ++ [(pl, b)])).length = ls.length + 1 := by unfold lyO; rw [List.length_map, hlen1]
            have eL2 : lyO (ls ++ [(pl, b)]) ++ [Ob.tup [.num nx, kS b2], Ob.tup [.num pl, kS b]] = lyO ((ls ++ [(pl, b)]) ++ [(nx, b2), (pl, b)]) := by rw [lyO_app (ls ++ [(pl, b)]) [(nx, b2), (pl, b)]]; rfl
            refine ea_nil ⟨[.text (stS b2)], rfl, le16 (show 1 ≤ 1000 by decide), ea_nil ⟨[.num nx, kS b2], rfl, le16 (show 2 ≤ 1000 by decide), ea_cons (ED.ex (ed_tk (ek (k := .num pl) (ed_var 7) (ek (k := kS b) (ed_var 8) ek0))) (ea_nil ⟨le16 (show 2 ≤ 1000 by decide), fun q => ⟨p, q, 1, 2, lyO (ls ++ [(pl, b)]), [Ob.tup [.num nx, kS b2], Ob.tup [.num pl, kS b]], rfl, rfl, rfl, rfl, by rw [hly2]; exact le16 (by simp only [List.length_cons, List.length_nil]; omega), fun q2 => ?_⟩⟩))⟩⟩
            refine so_drop (M := [(l, deckO d7), (q2, Mo.l (lyO ((ls ++ [(pl, b)]) ++ [(nx, b2), (pl, b)])))]) (so_nil (so_nil (fin _ _ d7 (hok7.le (by push_cast; omega)) _ q2 _ hv3 (by omega) rfl rfl))) ?_
            rw [← eL2]
            exact List.Sublist.cons₂ _ (List.Sublist.cons _ (List.Sublist.cons _ (List.Sublist.refl _)))
          · rw [decide_eq_false h2]
            exact @iteF _ (_) (so_nil (so_nil (fin _ _ d6 (hok6.le (by push_cast; omega)) g9 p _ hv2 (by omega) rfl rfl)))
      · rintro _ _ ⟨p, ls, d3, g4, g7, g8, g9, hv, hll, hok3, rfl, rfl⟩
        have hcount : ((r : Int) * (if decide ((1 : Int) < many) then 1 else 0)).toNat ≤ 3 := by
          by_cases h : (1 : Int) < many
          · rw [decide_eq_true h]; simp only [if_true]; omega
          · rw [decide_eq_false h]; simp only [Bool.false_eq_true, if_false]; omega
        have hl9 : ls.length ≤ 9 := by omega
        have hlyl : (lyO ls).length = ls.length := by unfold lyO; rw [List.length_map]
        have e20 : (lyO ls).take 20 = (ls.map kL).map .d := by rw [List.take_of_length_le (by omega)]; unfold lyO; rw [List.map_map]; rfl
        refine so_ret (EX.sub (P := fun o M => o = .d (kP ab ls) ∧ ∃ Mx, M = (l, deckO d3) :: Mx) (ex_tup (ea_cons (ED.ex (ed_var 5) (ea_cons (ex_tupleL (ex_toLd (j := 1) (xs := lyO ls) 20 (ed_var 6) rfl ed_int fun q => ⟨q, 2, ls.map kL, rfl, congrArg (fun z => some (q, Mo.l z)) e20, ea_nil ⟨[kSs ab, kLs ls], rfl, le16 (show 2 ≤ 1000 by decide), rfl, _, rfl⟩⟩) T.z_tuple))))) fun o M ⟨e1, Mx, e2⟩ => ⟨[(l, deckO d3)], ?_, ab, ls, d3, hab, hv, hl9, hok3.le (by omega), e1, rfl⟩)
        subst e2
        exact List.Sublist.cons₂ _ (List.nil_sublist _)
end
end Brd
set_option maxHeartbeats 4000000
namespace Brd
open PySem PySem.Spec PyProof.Rows L2 BM
def optO : Option (List Lay) → Ob
  | some l => .d (kLs l)
  | none => .d .none
theorem drop2 {ls : List Lay} {i : Nat} (h : i + 1 < ls.length) : ∃ f s r, ls.drop i = f :: s :: r ∧ ls.drop (i + 2) = r := by
  rw [List.drop_eq_getElem_cons (by omega : i < ls.length), List.drop_eq_getElem_cons h]
  exact ⟨_, _, _, rfl, rfl⟩
theorem drop3 {ls : List Lay} {i : Nat} (h : i + 2 < ls.length) : ∃ f s t r, ls.drop i = f :: s :: t :: r ∧ ls.drop (i + 3) = r := by
  rw [List.drop_eq_getElem_cons (by omega : i < ls.length), List.drop_eq_getElem_cons (by omega : i + 1 < ls.length), List.drop_eq_getElem_cons h]
  exact ⟨_, _, _, _, rfl, rfl⟩
section
variable {P : Program} {w : World} {K : PySem.W.Frag} {mg : Str → Option Value} {base : Heap}
/-! ### _law_swapped -/
theorem sc_swp : FnScope ["_law_layers", "_law_at", "_law_side", "_law_one", "_law_other"] ["_law_layers", "_law_at", "_law_side"] (defScope (top 45)) := ⟨rfl, rfl, rfl, by decide +kernel, rfl, by decide +kernel, by decide +kernel⟩
def G_swp : List Ob → Ob → Prop := fun os o => ∃ (n : Nat) (ls : List Lay) (i : Nat) (left : Bool), ls.length ≤ 200 ∧ i + 1 < ls.length ∧ os = [.d (kLs ls), .num i, .text (sdS left)] ∧ o = optO (slid n ls (.turn i left))
theorem part2 {ls : List Lay} {i : Nat} {f s : Lay} {r : List Lay} (h : ls.drop i = f :: s :: r) : ((ls.map kL).drop i).take (i + 2 - i) = [kL f, kL s] := by
  rw [Nat.add_sub_cancel_left, ← List.map_drop, h]; rfl
theorem part3 {ls : List Lay} {i : Nat} {f s t : Lay} {r : List Lay} (h : ls.drop i = f :: s :: t :: r) : ((ls.map kL).drop i).take (i + 3 - i) = [kL f, kL s, kL t] := by
  rw [Nat.add_sub_cancel_left, ← List.map_drop, h]; rfl
theorem kn_swp (T : Txt w K mg) : Kn CX0 P w K mg base "_law_swapped" ["_law_layers", "_law_at", "_law_side"] 1 (spG w K (RD G_swp)) := by
  refine kn_mk (T.d 31 _ rfl) (T.g 31 _ rfl) sc_swp (fun fd F => F.bindsN fun _ _ _ _ _ _ us hl => match us, hl with | [_, _, _], _ => rfl) ?_ ?_
  · rintro _ _ _ ⟨_, _, ⟨_, _, _, _, _, _, rfl, _⟩, _⟩; rfl
  · rintro cdv A outer s0 H E _ _ _ hr ⟨rfl, _, ⟨n, ls, i, left, hz, hi, rfl, rfl⟩, rfl⟩
    obtain ⟨f, s, r, hd, hd2⟩ := drop2 hi
    have hml : (ls.map kL).length = ls.length := List.length_map _
    refine so_asgG (ED.ex (ED.cast (ed_part i (i + 2) (ks := ls.map kL) (ed_var 0) (ed_var 1) (ed_addN i 2 (ed_var 1) ed_int) (by omega) (by omega)) (congrArg Ob.tup (part2 hd))) (go_tup (ks := [kL f, kL s]) rfl (gos_cons (go_name 3 (gos_cons (go_name 4 (gos_nil ?_) sc_swp.nd)) sc_swp.nd))))
    have hsl : slid n ls (.turn i left) = if (if left then s.1 + 2 ≤ f.1 else f.1 + 2 ≤ s.1) then some (ls.take i ++ s :: f :: r) else none := by simp only [slid, hd]
    rw [hsl]
    refine so_ifK (k := (left && decide ((s.1 : Int) < (f.1 : Int) - 1)) || (!left && decide ((f.1 : Int) + 1 < s.1))) (eb_w (eb_or (eb_w (eb_and (EB.cast (eb_eqS (ed_var 2) ed_str) (dec_sdL left)) fun _ => eb_and1 (eb_lt (ed_ix (k := .num s.1) (ed_var 4) ed_int rfl) (ed_sub (ed_ix (k := .num f.1) (ed_var 3) ed_int rfl) ed_int)))) fun _ => eb_or1 (eb_w (eb_and (EB.cast (eb_eqS (ed_var 2) ed_str) (dec_sdR left)) fun _ => eb_and1 (eb_gt (ed_ix (k := .num s.1) (ed_var 4) ed_int rfl) (ed_add (ed_ix (k := .num f.1) (ed_var 3) ed_int rfl) ed_int)))))) (fun h => ?_) fun h => so_nil ?_
    · have hc : (if left = true then s.1 + 2 ≤ f.1 else f.1 + 2 ≤ s.1) := by
        cases left with
        | true =>
          have h' : (s.1 : Int) < (f.1 : Int) - 1 := by simpa using h
          rw [if_pos rfl]; omega
        | false =>
          have h' : (f.1 : Int) + 1 < s.1 := by simpa using h
          rw [if_neg (by decide)]; omega
      have hz1 : ((ls.map kL).take i).length + [kL s, kL f].length ≤ sizeLine := by rw [List.length_take]; exact le16 (by simp only [List.length_cons, List.length_nil]; omega)
      have hz2 : ((ls.map kL).take i ++ [kL s, kL f]).length + ((ls.map kL).drop (i + 2)).length ≤ sizeLine := by rw [List.length_append, List.length_take, List.length_drop, hml]; exact le16 (by simp only [List.length_cons, List.length_nil]; omega)
      have e9 : Ob.tup (((ls.map kL).take i ++ [kL s, kL f]) ++ (ls.map kL).drop (i + 2)) = optO (if (if left then s.1 + 2 ≤ f.1 else f.1 + 2 ≤ s.1) then some (ls.take i ++ s :: f :: r) else none) := by
        rw [if_pos hc, ← List.map_drop, hd2]
        simp [optO, kLs]
      exact so_ret (ED.ex (ED.cast (ed_catT (ed_catT (ls := [kL s, kL f]) (ed_to i (ks := ls.map kL) (ed_var 0) (ed_var 1)) (ed_tk (ek (k := kL s) (ed_var 4) (ek (k := kL f) (ed_var 3) ek0))) hz1) (ed_from (i + 2) (ks := ls.map kL) (ed_var 0) (ed_addN i 2 (ed_var 1) ed_int)) hz2) e9) ⟨rfl, rfl⟩)
    · have hc : ¬ (if left = true then s.1 + 2 ≤ f.1 else f.1 + 2 ≤ s.1) := by
        cases left with
        | true =>
          have h' : ¬ ((s.1 : Int) < (f.1 : Int) - 1) := by simpa using h
          rw [if_pos rfl]; omega
        | false =>
          have h' : ¬ ((f.1 : Int) + 1 < s.1) := by simpa using h
          rw [if_neg (by decide)]; omega
      rw [if_neg hc]
      exact so_ret (ED.ex ed_none ⟨rfl, rfl⟩)
/-! ### _law_threed -/
theorem sc_th : FnScope ["_law_layers", "_law_at", "_law_places", "_law_steps", "_law_three", "_law_place", "_law_step"] ["_law_layers", "_law_at"] (defScope (top 46)) := ⟨rfl, rfl, rfl, by decide +kernel, rfl, by decide +kernel, by decide +kernel⟩
def G_th : List Ob → Ob → Prop := fun os o => ∃ (n : Nat) (ls : List Lay) (i : Nat), ls.length ≤ 200 ∧ i + 2 < ls.length ∧ os = [.d (kLs ls), .num i] ∧ o = optO (slid n ls (.three i))
def tri (f s t : Lay) (i : Nat) : Lay := [f, s, t].getD i f
theorem tri_it (f s t : Lay) : ∀ i, i < 3 → Ob.d ([kL f, kL s, kL t].getD i .none) = .tup [.num (tri f s t i).1, kS (tri f s t i).2]
  | 0, _ => rfl
  | 1, _ => rfl
  | 2, _ => rfl
theorem kn_th (T : Txt w K mg) : Kn CX0 P w K mg base "_law_threed" ["_law_layers", "_law_at"] 1 (spG w K (RD G_th)) := by
  refine kn_mk (T.d 32 _ rfl) (T.g 32 _ rfl) sc_th (fun fd F => F.bindsN fun _ _ _ _ _ _ us hl => match us, hl with | [_, _], _ => rfl) ?_ ?_
  · rintro _ _ _ ⟨_, _, ⟨_, _, _, _, _, rfl, _⟩, _⟩; rfl
  · rintro cdv A outer s0 H E _ _ _ hr ⟨rfl, _, ⟨n, ls, i, hz, hi, rfl, rfl⟩, rfl⟩
    obtain ⟨f, s, t, r, hd, hd2⟩ := drop3 hi
    have hml : (ls.map kL).length = ls.length := List.length_map _
    refine so_setLc2 (y := "_law_place") (y2 := "_law_step") (n := 3) (i1 := fun i => .num (tri f s t i).1) (i2 := fun i => kS (tri f s t i).2) 5 6 (by decide) rfl sc_th.nd (blkOk_by (N := ["_law_layers", "_law_at", "_law_places", "_law_steps", "_law_three", "_law_place", "_law_step"]) (sc := defScope (top 46)) (by decide +kernel)) le3' (fun _ _ _ _ _ => pg_tup rfl (pgs_cons (pg_name (i := 5) sc_th.nd rfl (Or.inl rfl)) (pgs_cons (pg_name (i := 6) sc_th.nd rfl (Or.inl rfl)) pgs_nil))) (IR.congr (ir_tup (ks := [kL f, kL s, kL t]) (ED.cast (ed_part i (i + 3) (ks := ls.map kL) (ed_var 0) (ed_var 1) (ed_addN i 3 (ed_var 1) ed_int) (by omega) (by omega)) (congrArg Ob.tup (part3 hd)))) (tri_it f s t)) (fun i acc M => acc = ((List.range i).map fun i => Ob.num (tri f s t i).1) ∧ M = []) ⟨rfl, rfl⟩ ?_ (P := fun o M => ∃ p, o = .r p ∧ M = [(p, Mo.l [.num f.1, .num s.1, .num t.1])]) ?_ (hf := fun _ => rfl) 2 ?_ rfl (sw_true rfl rfl rfl (by decide +kernel))
    · rintro i acc M D hi hl ⟨rfl, rfl⟩ s H Cc cl fp
      exact ED.ex (ed_var 5) ⟨[], rfl, by rw [List.range_succ, List.map_append]; rfl, rfl⟩
    · rintro acc M D hl ⟨rfl, rfl⟩
      exact ⟨D, rfl, rfl⟩
    · rintro _ _ ⟨p, rfl, rfl⟩
      refine SO.at [] H [some (.d (kLs ls)), some (.num i), some (.r p), none, none, none, none] [(p, Mo.l [.num f.1, .num s.1, .num t.1])] ?_ rfl
      refine so_setLc2 (y := "_law_place") (y2 := "_law_step") (n := 3) (i1 := fun i => .num (tri f s t i).1) (i2 := fun i => kS (tri f s t i).2) 5 6 (by decide) rfl sc_th.nd (blkOk_by (N := ["_law_layers", "_law_at", "_law_places", "_law_steps", "_law_three", "_law_place", "_law_step"]) (sc := defScope (top 46)) (by decide +kernel)) le3' (fun _ _ _ _ _ => pg_tup rfl (pgs_cons (pg_name (i := 5) sc_th.nd rfl (Or.inl rfl)) (pgs_cons (pg_name (i := 6) sc_th.nd rfl (Or.inl rfl)) pgs_nil))) (IR.congr (ir_tup (ks := [kL f, kL s, kL t]) (ED.cast (ed_part i (i + 3) (ks := ls.map kL) (ed_var 0) (ed_var 1) (ed_addN i 3 (ed_var 1) ed_int) (by omega) (by omega)) (congrArg Ob.tup (part3 hd)))) (tri_it f s t)) (fun i acc M => acc = ((List.range i).map fun i => Ob.d (kS (tri f s t i).2)) ∧ M = [(p, Mo.l [.num f.1, .num s.1, .num t.1])]) ⟨rfl, rfl⟩ ?_ (P := fun o M => ∃ q, o = .r q ∧ M = [(p, Mo.l [.num f.1, .num s.1, .num t.1]), (q, Mo.l [.d (kS f.2), .d (kS s.2), .d (kS t.2)])]) ?_ (hf := fun _ => rfl) 3 ?_ rfl (sw_true rfl rfl rfl (by decide +kernel))
      · rintro i acc M D hi hl ⟨rfl, rfl⟩ s H Cc cl fp
        exact ED.ex (ed_var 6) ⟨_, rfl, by rw [List.range_succ, List.map_append]; rfl, rfl⟩
      · rintro acc M D hl ⟨rfl, rfl⟩
        exact ⟨D, rfl, rfl⟩
      rintro _ _ ⟨q, rfl, rfl⟩
      refine SO.at [] H [some (.d (kLs ls)), some (.num i), some (.r p), some (.r q), none, none, none] [(p, Mo.l [.num f.1, .num s.1, .num t.1]), (q, Mo.l [.d (kS f.2), .d (kS s.2), .d (kS t.2)])] ?_ rfl
      have hsl : slid n ls (.three i) = if (f.1 = t.1 ∧ (f.1 = s.1 + 1 ∨ s.1 = f.1 + 1)) ∧ ¬ (f.2 = t.2 ∧ f.2 ≠ s.2) then some (ls.take i ++ (s.1, t.2) :: (f.1, s.2) :: (s.1, f.2) :: r) else none := by simp only [slid, hd]
      rw [hsl]
      refine so_ifK (k := !decide (f.1 = t.1) || !decide ((s.1 : Int) - (f.1 : Int) ∈ [(1 : Int), -1])) (eb_w (eb_or (EB.cast (eb_neI (ed_ixL (j := 0) (os := [.num f.1, .num s.1, .num t.1]) (o := .num f.1) (ed_var 2) ed_int rfl rfl) (ed_ixL (j := 0) (os := [.num f.1, .num s.1, .num t.1]) (o := .num t.1) (ed_var 2) ed_int rfl rfl)) (congrArg _ (nat_num f.1 t.1))) fun _ => eb_or1 (eb_notInI (ss := [1, -1]) (ed_sub (ed_ixL (j := 0) (os := [.num f.1, .num s.1, .num t.1]) (o := .num s.1) (ed_var 2) ed_int rfl rfl) (ed_ixL (j := 0) (os := [.num f.1, .num s.1, .num t.1]) (o := .num f.1) (ed_var 2) ed_int rfl rfl)) (ed_tk (ek (k := .num 1) ed_int (ek (k := .num (-1)) (ed_neg ed_int) ek0)) (show 2 ≤ 1000 by decide))))) (fun h => ?_) fun h => so_nil ?_
      · refine so_retS (ED.ex ed_none ⟨[], List.nil_sublist _, ?_, rfl⟩)
        rw [if_neg]
        · rfl
        · intro ⟨⟨h1, h2⟩, _⟩
          rw [decide_eq_true h1] at h
          simp only [Bool.not_true, Bool.false_or, Bool.not_eq_true', decide_eq_false_iff_not] at h
          apply h
          simp only [List.mem_cons, List.not_mem_nil, or_false]
          omega
      · have h1 : f.1 = t.1 ∧ (f.1 = s.1 + 1 ∨ s.1 = f.1 + 1) := by
          simp only [Bool.or_eq_false_iff, Bool.not_eq_false', decide_eq_true_eq, List.mem_cons, List.not_mem_nil, or_false] at h
          omega
        refine so_ifK (k := decide (f.2 = t.2) && !decide (s.2 = f.2)) (eb_w (eb_and (EB.cast (eb_eqT (ks := [.text (stS f.2)]) (ls := [.text (stS t.2)]) (hu64 hr) (ed_ixL (j := 1) (os := [.d (kS f.2), .d (kS s.2), .d (kS t.2)]) (o := .d (kS f.2)) (ed_var 3) ed_int rfl rfl) (ed_ixL (j := 1) (os := [.d (kS f.2), .d (kS s.2), .d (kS t.2)]) (o := .d (kS t.2)) (ed_var 3) ed_int rfl rfl) (dp_st _)) (dec_st _ _)) fun _ => eb_and1 (EB.cast (eb_neT (ks := [.text (stS s.2)]) (ls := [.text (stS f.2)]) (hu64 hr) (ed_ixL (j := 1) (os := [.d (kS f.2), .d (kS s.2), .d (kS t.2)]) (o := .d (kS s.2)) (ed_var 3) ed_int rfl rfl) (ed_ixL (j := 1) (os := [.d (kS f.2), .d (kS s.2), .d (kS t.2)]) (o := .d (kS f.2)) (ed_var 3) ed_int rfl rfl) (dp_st _)) (congrArg _ (dec_st _ _))))) (fun h2 => ?_) fun h2 => so_nil ?_
        · refine so_retS (ED.ex ed_none ⟨[], List.nil_sublist _, ?_, rfl⟩)
          simp only [Bool.and_eq_true, Bool.not_eq_true', decide_eq_true_eq, decide_eq_false_iff_not] at h2
          rw [if_neg (fun z => z.2 ⟨h2.1, fun e => h2.2 e.symm⟩)]
          rfl
        · have h3 : ¬ (f.2 = t.2 ∧ f.2 ≠ s.2) := fun z => by
            rw [decide_eq_true z.1, decide_eq_false (fun e => z.2 e.symm)] at h2
            exact absurd h2 (by decide)
          have hz1 : ((ls.map kL).take i).length + [kL (s.1, t.2), kL (f.1, s.2), kL (s.1, f.2)].length ≤ sizeLine := by rw [List.length_take]; exact le16 (by simp only [List.length_cons, List.length_nil]; omega)
          have hz2 : ((ls.map kL).take i ++ [kL (s.1, t.2), kL (f.1, s.2), kL (s.1, f.2)]).length + ((ls.map kL).drop (i + 3)).length ≤ sizeLine := by rw [List.length_append, List.length_take, List.length_drop, hml]; exact le16 (by simp only [List.length_cons, List.length_nil]; omega)
          have e9 : Ob.tup (((ls.map kL).take i ++ [kL (s.1, t.2), kL (f.1, s.2), kL (s.1, f.2)]) ++ (ls.map kL).drop (i + 3)) = optO (some (ls.take i ++ (s.1, t.2) :: (f.1, s.2) :: (s.1, f.2) :: r)) := by
            rw [← List.map_drop, hd2]
            simp [optO, kLs]
          rw [if_pos ⟨h1, h3⟩]
          refine so_asg 4 (ED.ex (ed_tk (ek (k := kL (s.1, t.2)) (ed_tk (ek (k := .num s.1) (ed_ixL (j := 0) (os := [.num f.1, .num s.1, .num t.1]) (ed_var 2) ed_int rfl rfl) (ek (k := kS t.2) (ed_ixL (j := 1) (os := [.d (kS f.2), .d (kS s.2), .d (kS t.2)]) (ed_var 3) ed_int rfl rfl) ek0)) (show 2 ≤ 1000 by decide)) (ek (k := kL (f.1, s.2)) (ed_tk (ek (k := .num f.1) (ed_ixL (j := 0) (os := [.num f.1, .num s.1, .num t.1]) (ed_var 2) ed_int rfl rfl) (ek (k := kS s.2) (ed_ixL (j := 1) (os := [.d (kS f.2), .d (kS s.2), .d (kS t.2)]) (ed_var 3) ed_int rfl rfl) ek0)) (show 2 ≤ 1000 by decide)) (ek (k := kL (s.1, f.2)) (ed_tk (ek (k := .num s.1) (ed_ixL (j := 0) (os := [.num f.1, .num s.1, .num t.1]) (ed_var 2) ed_int rfl rfl) (ek (k := kS f.2) (ed_ixL (j := 1) (os := [.d (kS f.2), .d (kS s.2), .d (kS t.2)]) (ed_var 3) ed_int rfl rfl) ek0)) (show 2 ≤ 1000 by decide)) ek0)))) ?_) sc_th.nd
          exact so_retS (ED.ex (ED.cast (ed_catT (ed_catT (ls := [kL (s.1, t.2), kL (f.1, s.2), kL (s.1, f.2)]) (ed_to i (ks := ls.map kL) (ed_var 0) (ed_var 1)) (ed_var 4) hz1) (ed_from (i + 3) (ks := ls.map kL) (ed_var 0) (ed_addN i 3 (ed_var 1) ed_int)) hz2) e9) ⟨[], List.nil_sublist _, rfl, rfl⟩)
end
end Brd
set_option maxHeartbeats 4000000
namespace Brd
open PySem PySem.Spec PyProof.Rows L2 BM
theorem mid_short {ls : List Lay} {s : Sl} (h : ls.length < 2) : midM ls s = none := by
  match ls, h with
  | [], _ => cases s <;> rfl
  | [_], _ => cases s <;> rfl
theorem slid_short {n : Nat} {ls : List Lay} {s : Sl} (e : ntw s = true) (h : ¬ atS s + 1 < ls.length) : slid n ls s = none := by
  rw [slid_mid n ls s e, mid_short (by rw [List.length_drop]; omega)]
  rfl
theorem isp_val (i m : Nat) : (decide ((0 : Int) ≤ (i : Int)) && decide ((i : Int) < (m : Int))) = decide (i < m) := by
  rw [Bool.eq_iff_iff]
  simp only [Bool.and_eq_true, decide_eq_true_eq]
  omega
section
variable {P : Program} {w : World} {K : PySem.W.Frag} {mg : Str → Option Value} {base : Heap}
/-! ### _law_layers_due -/
theorem sc_due : FnScope ["_law_many", "_law_layers", "_law_slide", "_law_word", "_law_at", "_law_steps", "_law_one", "_law_other"] ["_law_many", "_law_layers", "_law_slide"] (defScope (top 47)) := ⟨rfl, rfl, rfl, by decide +kernel, rfl, by decide +kernel, by decide +kernel⟩
def G_due : List Ob → Ob → Prop := fun os o => ∃ (n : Nat) (ls : List Lay) (s : Sl), ls.length ≤ 150 ∧ os = [.num n, .d (kLs ls), .d (kSl s)] ∧ o = optO (slid n ls s)
theorem dir_at (o : Bool) : atI [Ob.num 1, Ob.num (-1)] (if !o then 1 else 0) = some (.num (if o then 1 else -1)) := by cases o <;> rfl
theorem dec_und (o : Bool) : decide (stS o = ("under" : Str)) = !o := by cases o <;> rfl
theorem kn_due (T : Txt w K mg) : Kn CX0 P w K mg base "_law_layers_due" ["_law_many", "_law_layers", "_law_slide"] 2 (spG w K (RD G_due)) := by
  refine kn_mk (T.d 33 _ rfl) (T.g 33 _ rfl) sc_due (fun fd F => F.bindsN fun _ _ _ _ _ _ us hl => match us, hl with | [_, _, _], _ => rfl) ?_ ?_
  · rintro _ _ _ ⟨_, _, ⟨_, _, _, _, rfl, _⟩, _⟩; rfl
  · rintro cdv A outer s0 H E _ _ _ hr ⟨rfl, _, ⟨n, ls, sl, hz, rfl, rfl⟩, rfl⟩
    have hml : (ls.map kL).length = ls.length := List.length_map _
    have hlen : (((ls.map kL).length : Nat) : Int) = ls.length := by rw [List.length_map]
    obtain ⟨wd, r, hk, hw⟩ := kSl_cons sl
    have hgt : 2 ≤ (NestedKey.text wd :: NestedKey.num (atS sl) :: r).length := by simp
    have hsl : ∀ {X : Cx} {C : Ct} {e : Expr}, ED X C e (.d (kSl sl)) → ED X C e (.tup (.text wd :: .num (atS sl) :: r)) := fun h => by rw [hk] at h; exact h
    refine so_ifF (eb_w (eb_or (k := false) (l := false) (eb_not (k := true) (et_val (ED.ex (ed_isi (T := "tuple") (k := .tup (.text wd :: .num (atS sl) :: r)) (hsl (ed_var 2)) rfl (by decide +kernel) T.z_tuple rfl (by decide) (by decide) T.z_isinstance) ⟨_, rfl, rfl, rfl⟩))) fun _ => eb_or1 (EB.cast (eb_lt (ed_len (hsl (ed_var 2)) T.z_len) ed_int) (decide_eq_false (by omega))))) ?_
    refine so_asgG (ED.ex (ed_to 2 (hsl (ed_var 2)) ed_int) (go_tup (ks := [.text wd, .num (atS sl)]) rfl (gos_cons (go_name 3 (gos_cons (go_name 4 (gos_nil ?_) sc_due.nd)) sc_due.nd))))
    refine SO.at [] H [some (.num n), some (.d (kLs ls)), some (.d (kSl sl)), some (.text wd), some (.num (atS sl)), none, none, none] [] ?_ rfl
    cases e : ntw sl with
    | true =>
      have hw := hw e
      refine so_ifF (eb_w (eb_and (k := false) (l := false) (EB.cast (eb_eqS (ed_var 3) ed_str) hw) fun e => nomatch e)) ?_
      refine so_ifK (k := !decide (atS sl + 1 < ls.length)) (eb_not (et_val (ED.ex (ed_call (kn_isp T) hr pass0 (eds_cons (ed_var 4) (eds_cons (ed_sub (ed_len (ks := ls.map kL) (ed_var 1) T.z_len) ed_int) eds_nil)) ⟨_, _, rfl, rfl⟩) ⟨_, rfl, ?_, rfl⟩))) (fun h => ?_) fun h => so_nil ?_
      · rw [hlen, Bool.eq_iff_iff]
        simp only [Bool.and_eq_true, decide_eq_true_eq]
        omega
      · have h1 : ¬ atS sl + 1 < ls.length := by simpa using h
        rw [slid_short e h1]
        exact so_ret (ED.ex ed_none ⟨rfl, rfl⟩)
      have h1 : atS sl + 1 < ls.length := by simpa using h
      cases sl with
      | turn i left =>
        injection hk with hk
        injection hk with hk1 _
        injection hk1 with hk1
        subst hk1
        refine so_ifT (eb_w (eb_and (k := true) (l := true) (EB.cast (eb_eqS (ed_var 3) ed_str) (by decide)) fun _ => eb_and1 (EB.cast (eb_eqI (ed_len (ks := [.text "turn", .num i, .text (sdS left)]) (ed_var 2) T.z_len) ed_int) rfl))) ?_
        exact so_ret (ED.ex (ed_call (kn_swp T) hr pass0 (eds_cons (ed_var 1) (eds_cons (ed_var 4) (eds_cons (ed_ix (k := .text (sdS left)) (ks := [.text "turn", .num i, .text (sdS left)]) (ed_var 2) ed_int rfl) eds_nil))) ⟨n, ls, i, left, by omega, h1, rfl, rfl⟩) ⟨rfl, rfl⟩)
      | pair i =>
        injection hk with hk
        injection hk with hk1 _
        injection hk1 with hk1
        subst hk1
        obtain ⟨f, s, r', hd, hd2⟩ := drop2 (i := i) h1
        refine so_ifF (eb_w (eb_and (k := false) (l := false) (EB.cast (eb_eqS (ed_var 3) ed_str) (by decide)) fun e => nomatch e)) ?_
        refine so_ifT (eb_w (eb_and (k := true) (l := true) (EB.cast (eb_eqS (ed_var 3) ed_str) (by decide)) fun _ => eb_and1 (EB.cast (eb_eqI (ed_len (ks := [.text "pair", .num i]) (ed_var 2) T.z_len) ed_int) rfl))) ?_
        have h1 : i + 1 < ls.length := h1
        refine so_asgG (ED.ex (ED.cast (ed_part i (i + 2) (ks := ls.map kL) (ed_var 1) (ed_var 4) (ed_addN i 2 (ed_var 4) ed_int) (by omega) (by omega)) (congrArg Ob.tup (part2 hd))) (go_tup (ks := [kL f, kL s]) rfl (gos_cons (go_name 6 (gos_cons (go_name 7 (gos_nil ?_) sc_due.nd)) sc_due.nd))))
        have hsl2 : slid n ls (.pair i) = if f.1 = s.1 ∧ f.2 ≠ s.2 then some (ls.take i ++ r') else none := by simp only [slid, hd]
        rw [hsl2]
        refine so_ifK (k := decide (f.1 = s.1) && !decide (f.2 = s.2)) (eb_w (eb_and (EB.cast (eb_eqI (ed_ix (k := .num f.1) (ed_var 6) ed_int rfl) (ed_ix (k := .num s.1) (ed_var 7) ed_int rfl)) (nat_num f.1 s.1)) fun _ => eb_and1 (EB.cast (eb_neT (ks := [.text (stS f.2)]) (ls := [.text (stS s.2)]) (hu64 hr) (ed_ix (k := kS f.2) (ed_var 6) ed_int rfl) (ed_ix (k := kS s.2) (ed_var 7) ed_int rfl) (dp_st _)) (congrArg _ (dec_st _ _))))) (fun h2 => ?_) fun h2 => so_nil (so_nil ?_)
        · simp only [Bool.and_eq_true, Bool.not_eq_true', decide_eq_true_eq, decide_eq_false_iff_not] at h2
          have hz2 : ((ls.map kL).take i).length + ((ls.map kL).drop (i + 2)).length ≤ sizeLine := by rw [List.length_take, List.length_drop, hml]; exact le16 (by omega)
          have e9 : Ob.tup ((ls.map kL).take i ++ (ls.map kL).drop (i + 2)) = optO (some (ls.take i ++ r')) := by
            rw [← List.map_drop, hd2]
            simp [optO, kLs]
          rw [if_pos h2]
          exact so_ret (ED.ex (ED.cast (ed_catT (ed_to i (ks := ls.map kL) (ed_var 1) (ed_var 4)) (ed_from (i + 2) (ks := ls.map kL) (ed_var 1) (ed_addN i 2 (ed_var 4) ed_int)) hz2) e9) ⟨rfl, rfl⟩)
        · have h3 : ¬ (f.1 = s.1 ∧ f.2 ≠ s.2) := fun z => by
            rw [decide_eq_true z.1, decide_eq_false z.2] at h2
            exact absurd h2 (by decide)
          rw [if_neg h3]
          refine so_ifF (eb_w (eb_and (k := false) (l := false) (EB.cast (eb_eqS (ed_var 3) ed_str) (by decide)) fun e => nomatch e)) ?_
          exact so_ret (ED.ex ed_none ⟨rfl, rfl⟩)
      | three i =>
        injection hk with hk
        injection hk with hk1 _
        injection hk1 with hk1
        subst hk1
        refine so_ifF (eb_w (eb_and (k := false) (l := false) (EB.cast (eb_eqS (ed_var 3) ed_str) (by decide)) fun e => nomatch e)) ?_
        refine so_ifF (eb_w (eb_and (k := false) (l := false) (EB.cast (eb_eqS (ed_var 3) ed_str) (by decide)) fun e => nomatch e)) ?_
        refine so_ifK (eb_w (eb_and (k := true) (EB.cast (eb_eqS (ed_var 3) ed_str) (by decide)) fun _ => eb_and (k := true) (EB.cast (eb_eqI (ed_len (ks := [.text "three", .num i]) (ed_var 2) T.z_len) ed_int) rfl) fun _ => eb_and1 (eb_lt (ed_var 4) (ed_sub (ed_len (ks := ls.map kL) (ed_var 1) T.z_len) ed_int)))) (fun h2 => ?_) fun h2 => so_nil ?_
        · simp only [Bool.true_and, decide_eq_true_eq, hlen] at h2
          have h2 : (i : Int) < (ls.length : Int) - 2 := h2
          exact so_ret (ED.ex (ed_call (kn_th T) hr pass0 (eds_cons (ed_var 1) (eds_cons (ed_var 4) eds_nil)) ⟨n, ls, i, by omega, by omega, rfl, rfl⟩) ⟨rfl, rfl⟩)
        · simp only [Bool.true_and, decide_eq_false_iff_not, hlen] at h2
          have h2 : ¬ ((i : Int) < (ls.length : Int) - 2) := h2
          have h1 : i + 1 < ls.length := h1
          have h3 : slid n ls (.three i) = none := by
            rw [slid_mid n ls _ rfl]
            have h4 : (ls.drop i).length = 2 := by rw [List.length_drop]; omega
            show Option.map _ (midM (ls.drop i) (.three i)) = none
            match hq : ls.drop i, h4 with
            | [_, _], _ => rfl
          rw [h3]
          exact so_ret (ED.ex ed_none ⟨rfl, rfl⟩)
      | twine i p o => cases e
    | false =>
      cases sl with
      | turn i left => cases e
      | pair i => cases e
      | three i => cases e
      | twine i p o =>
        injection hk with hk
        injection hk with hk1 _
        injection hk1 with hk1
        subst hk1
        refine so_ifK (k := decide (i ≤ ls.length)) (EB.cast (eb_w (eb_and (k := true) (EB.cast (eb_eqS (ed_var 3) ed_str) (by decide)) fun _ => eb_and (k := true) (EB.cast (eb_eqI (ed_len (ks := [.text "twine", .num i, .num p, .text (stS o)]) (ed_var 2) T.z_len) ed_int) rfl) fun _ => eb_and1 (et_val (ED.ex (ed_call (kn_isp T) hr pass0 (eds_cons (ed_var 4) (eds_cons (ed_add (ed_len (ks := ls.map kL) (ed_var 1) T.z_len) ed_int) eds_nil)) ⟨_, _, rfl, rfl⟩) ⟨decide (i ≤ ls.length), ?_, rfl, rfl⟩)))) (by rw [Bool.true_and, Bool.true_and])) (fun h => ?_) fun h => so_nil ?_
        · rw [hlen]
          refine congrArg Ob.bl ?_
          show (decide ((0 : Int) ≤ (i : Int)) && decide ((i : Int) < (ls.length : Int) + 1)) = _
          rw [Bool.eq_iff_iff]
          simp only [Bool.and_eq_true, decide_eq_true_eq]
          omega
        · have h1 : i ≤ ls.length := of_decide_eq_true h
          refine so_ifK (k := !decide (p + 2 ≤ n)) (EB.cast (eb_w (eb_or (k := !(decide (p + 2 ≤ n))) (l := false) (eb_not (k := decide (p + 2 ≤ n)) (et_val (ED.ex (ed_call (kn_isp T) hr pass0 (eds_cons (ed_ix (k := .num p) (ks := [.text "twine", .num i, .num p, .text (stS o)]) (ed_var 2) ed_int rfl) (eds_cons (ed_sub (ed_var 0) ed_int) eds_nil)) ⟨_, _, rfl, rfl⟩) ⟨_, rfl, ?_, rfl⟩))) fun _ => eb_or1 (EB.cast (eb_notInS (ss := ["over", "under"]) (ed_ix (k := .text (stS o)) (ks := [.text "twine", .num i, .num p, .text (stS o)]) (ed_var 2) ed_int rfl) (ed_tk (ek (k := .text "over") ed_str (ek (k := .text "under") ed_str ek0)) (show 2 ≤ 1000 by decide))) (by rw [decide_eq_true (st_in o)]; rfl)))) (by rw [Bool.or_false])) (fun h2 => ?_) fun h2 => so_nil ?_
          · rw [Bool.eq_iff_iff]
            simp only [Bool.and_eq_true, decide_eq_true_eq]
            omega
          · have hp : ¬ p + 2 ≤ n := by simpa using h2
            have h3 : slid n ls (.twine i p o) = none := by simp only [slid]; rw [if_neg (fun z => hp z.2)]
            rw [h3]
            exact so_ret (ED.ex ed_none ⟨rfl, rfl⟩)
          · have hp : p + 2 ≤ n := by simpa using h2
            have h3 : slid n ls (.twine i p o) = some (ls.take i ++ (p, o) :: (p, !o) :: ls.drop i) := by simp only [slid]; rw [if_pos ⟨h1, hp⟩]
            rw [h3]
            refine so_asg 5 (ex_lst (EDs.ex (eds_cons (ed_tk (ek (k := .num p) (ed_ix (ks := [.text "twine", .num i, .num p, .text (stS o)]) (ed_var 2) ed_int rfl) (ek (k := .tup [.text "over"]) (ed_tk (ek (k := .text "over") ed_str ek0)) ek0))) (eds_cons (ed_tk (ek (k := .num p) (ed_ix (ks := [.text "twine", .num i, .num p, .text (stS o)]) (ed_var 2) ed_int rfl) (ek (k := .tup [.text "under"]) (ed_tk (ek (k := .text "under") ed_str ek0)) ek0))) eds_nil)) ⟨le16 (show 2 ≤ 1000 by decide), fun q5 => ?_⟩)) sc_due.nd
            have ho2 : (if (if o then (1 : Int) else -1) = 1 then [kL (p, true), kL (p, false)] else [kL (p, true), kL (p, false)].reverse) = [kL (p, o), kL (p, !o)] := by cases o <;> rfl
            have hz1 : ((ls.map kL).take i).length + [kL (p, o), kL (p, !o)].length ≤ sizeLine := by rw [List.length_take]; exact le16 (by simp only [List.length_cons, List.length_nil]; omega)
            have hz2 : ((ls.map kL).take i ++ [kL (p, o), kL (p, !o)]).length + ((ls.map kL).drop i).length ≤ sizeLine := by rw [List.length_append, List.length_take, List.length_drop, hml]; exact le16 (by simp only [List.length_cons, List.length_nil]; omega)
            have e9 : Ob.tup (((ls.map kL).take i ++ [kL (p, o), kL (p, !o)]) ++ (ls.map kL).drop i) = optO (some (ls.take i ++ (p, o) :: (p, !o) :: ls.drop i)) := by
              simp [optO, kLs]
            refine so_retS (ED.ex (ED.cast (ed_catT (ed_catT (ls := [kL (p, o), kL (p, !o)]) (ed_to i (ks := ls.map kL) (ed_var 1) (ed_var 4)) (ed_tupleN (ks := [kL (p, o), kL (p, !o)]) (ex_stepL (j := 0) (l := q5) (ks := [kL (p, true), kL (p, false)]) (k := if o then 1 else -1) (ed_var 5) rfl (ed_ixNew (eds_cons ed_int (eds_cons (ed_neg ed_int) eds_nil)) (fun M => ED.cast (ed_intB (ed_eqS (ed_ix (k := .text (stS o)) (ks := [.text "twine", .num i, .num p, .text (stS o)]) (ed_var 2) ed_int rfl) ed_str) T.z_int) (by rw [dec_und])) (dir_at o)) (by cases o <;> simp) fun q => ⟨q, rfl, by rw [ho2]⟩) T.z_tuple) hz1) (ed_from i (ks := ls.map kL) (ed_var 1) (ed_var 4)) hz2) e9) ⟨[], List.nil_sublist _, rfl, rfl⟩)
        · have h1 : ¬ i ≤ ls.length := of_decide_eq_false h
          have h3 : slid n ls (.twine i p o) = none := by simp only [slid]; rw [if_neg (fun z => h1 z.1)]
          rw [h3]
          refine so_ifT (eb_not (k := false) (et_val (ED.ex (ed_call (kn_isp T) hr pass0 (eds_cons (ed_var 4) (eds_cons (ed_sub (ed_len (ks := ls.map kL) (ed_var 1) T.z_len) ed_int) eds_nil)) ⟨_, _, rfl, rfl⟩) ⟨false, ?_, rfl, rfl⟩))) ?_
          · rw [hlen]
            refine congrArg Ob.bl ?_
            show (decide ((0 : Int) ≤ (i : Int)) && decide ((i : Int) < (ls.length : Int) - 1)) = false
            rw [decide_eq_false (show ¬ (i : Int) < (ls.length : Int) - 1 by omega), Bool.and_false]
          · exact so_ret (ED.ex ed_none ⟨rfl, rfl⟩)
end
end Brd
set_option maxHeartbeats 4000000
namespace Brd
open PySem PySem.Spec PyProof.Rows L2 BM
theorem eb_notBl {X : Cx} {C : Ct} {a b : Expr} {pos : Pos} {k l : Bool} (ha : ED X C a (.bl k)) (hb : ED X C b (.bl l)) : EB X C (.Compare a [.IsNot] [b] pos) (!decide (k = l)) := et_cmp op_notBl (ha.ex (hb.ex fun σ H x y A r1 r2 Q q => ⟨k, l, r1, r2, q _ _ _ H ⟨_, rfl, rfl, rfl⟩ (Tk.refl H) A rfl⟩))
section
variable {P : Program} {w : World} {K : PySem.W.Frag} {mg : Str → Option Value} {base : Heap}
/-! ### _law_alike -/
theorem sc_alike : FnScope ["_law_kit_here", "_law_one", "_law_other", "_law_first", "_law_second", "_law_found"] ["_law_kit_here", "_law_one", "_law_other"] (defScope (top 52)) := ⟨rfl, rfl, rfl, by decide +kernel, rfl, by decide +kernel, by decide +kernel⟩
structure Same (ab : List Str) (x y : List Lay) : Prop where
  vx : Valid ab.length x
  vy : Valid ab.length y
  lx : x.length ≤ 18
  ly : y.length ≤ 18
  w : words ab.length x = words ab.length y
  b : bel ab x = bel ab y
theorem Same.symm {ab : List Str} {x y : List Lay} (h : Same ab x y) : Same ab y x := ⟨h.vy, h.vx, h.ly, h.lx, h.w.symm, h.b.symm⟩
def G_alike : List Ob → Ob → Prop := fun os o => ∃ (kit : NestedKey) (ab : List Str) (x y : List Lay), ab.length ≤ 100 ∧ Same ab x y ∧ os = [.d kit, .d (kP ab x), .d (kP ab y)] ∧ o = .bl true
theorem kn_alike (T : Txt w K mg) : Kn CX0 P w K mg base "_law_alike" ["_law_kit_here", "_law_one", "_law_other"] 8 (spG w K (RD G_alike)) := by
  refine kn_mk (T.d 38 _ rfl) (T.g 38 _ rfl) sc_alike (fun fd F => F.bindsN fun _ _ _ _ _ _ us hl => match us, hl with | [_, _, _], _ => rfl) ?_ ?_
  · rintro _ _ _ ⟨_, _, ⟨_, _, _, _, _, _, rfl, _⟩, _⟩; rfl
  · rintro cdv A outer s0 H E _ _ _ hr ⟨rfl, _, ⟨kit, ab, x, y, hab, sm, rfl, rfl⟩, rfl⟩
    refine so_forL PassesOwn.never rfl (ex_lst (ea_cons (ED.ex (ed_tk (ek (k := kP ab x) (ed_var 1) (ek (k := kP ab y) (ed_var 2) ek0))) (ea_cons (ED.ex (ed_tk (ek (k := kP ab y) (ed_var 2) (ek (k := kP ab x) (ed_var 1) ek0))) (ea_nil ⟨le16 (show 2 ≤ 1000 by decide), fun p => ⟨p, [.tup [kP ab x, kP ab y], .tup [kP ab y, kP ab x]], rfl, fun i G M => ∃ g3 g4 g5, G = [some (.d kit), some (.d (kP ab x)), some (.d (kP ab y)), g3, g4, g5] ∧ M = [(p, Mo.l [.tup [kP ab x, kP ab y], .tup [kP ab y, kP ab x]])], ⟨none, none, none, rfl, rfl⟩, fun i G M ⟨_, _, _, _, e⟩ => ⟨0, by rw [e]; rfl⟩, ?_, ?_⟩⟩))))))
    · rintro i ob _ _ hob ⟨g3, g4, g5, rfl, rfl⟩
      obtain ⟨u, v, rfl, s1⟩ : ∃ u v, ob = .tup [kP ab u, kP ab v] ∧ Same ab u v := by
        match i, hob with
        | 0, h => cases h; exact ⟨x, y, rfl, sm⟩
        | 1, h => cases h; exact ⟨y, x, rfl, sm.symm⟩
      refine go_tup (ks := [kP ab u, kP ab v]) rfl (gos_cons (go_name 3 (gos_cons (go_name 4 (gos_nil ?_) sc_alike.nd)) sc_alike.nd))
      refine so_asg 5 (ex_call (kn_cmp T) hr pass0 (EDs.ex (eds_cons (ed_var 0) (eds_cons (ed_var 3) (eds_cons (ed_var 4) eds_nil))) ⟨_, ⟨kit, ab, u, v, hab, s1.vx, s1.vy, s1.lx, s1.ly, rfl, rfl, rfl⟩, fun o' Mn hh => ?_⟩)) sc_alike.nd
      obtain ⟨rfl, c1, c2, rfl, _, hc⟩ := hh
      obtain ⟨rfl, hp⟩ := hc s1.w s1.b
      refine SO.at [] H [some (.d kit), some (.d (kP ab x)), some (.d (kP ab y)), some (.d (kP ab u)), some (.d (kP ab v)), some (.tup [.text "alike", c2])] [(p, Mo.l [.tup [kP ab x, kP ab y], .tup [kP ab y, kP ab x]])] ?_ rfl
      refine so_ifF (eb_w (eb_or (k := false) (l := false) (eb_not (k := true) (et_val (ED.ex (ed_isi (T := "tuple") (k := .tup [.text "alike", c2]) (ed_var 5) rfl (by decide +kernel) T.z_tuple rfl (by decide) (by decide) T.z_isinstance) ⟨_, rfl, rfl, rfl⟩))) fun _ => eb_or1 (EB.cast (eb_neS (ed_ix (k := .text "alike") (ed_var 5) ed_int rfl) ed_str) (by decide)))) ?_
      rcases hp with rfl | ⟨ss, rfl, hw, hl⟩
      · refine so_ifF (eb_w (eb_and (k := false) (l := false) (EB.cast (eb_notN (k := .none) (ed_ix (ed_var 5) ed_int rfl) ed_none) (by rw [decide_eq_true rfl]; rfl)) fun e => nomatch e)) ?_
        exact so_nil ⟨_, _, _, rfl, rfl⟩
      · refine so_ifF (eb_w (eb_and (k := true) (l := false) (EB.cast (eb_notN (k := kPp ss) (ed_ix (ed_var 5) ed_int rfl) ed_none) (by rw [decide_eq_false (fun z => by cases z)]; rfl)) fun _ => eb_and1 (EB.cast (eb_notBl (k := true) (l := true) (ed_call (kn_bwalks T) (hr.mono (by omega)) pass0 (eds_cons (ed_var 0) (eds_cons (ed_var 3) (eds_cons (ed_var 4) (eds_cons (ed_ix (k := kPp ss) (ed_var 5) ed_int rfl) eds_nil)))) ⟨kit, ab, u, v, ss, hw, by have := s1.lx; omega, rfl, rfl⟩) ed_bool) (by decide)))) ?_
        exact so_nil ⟨_, _, _, rfl, rfl⟩
    · rintro _ _ ⟨g3, g4, g5, rfl, rfl⟩
      exact so_retS (ED.ex ed_bool ⟨[], List.nil_sublist _, rfl, rfl⟩)
/-! ### _law_slid_copy -/
theorem sc_copy : FnScope ["_law_deck_here", "_law_kit_here", "_law_picture", "_law_turn", "_law_slide"] ["_law_deck_here", "_law_kit_here", "_law_picture"] (defScope (top 53)) := ⟨rfl, rfl, rfl, by decide +kernel, rfl, by decide +kernel, by decide +kernel⟩
/-- one slid from the other -/
structure SlidE (n : Nat) (ls l' : List Lay) : Prop where
  v : Valid n l'
  l : l'.length ≤ 18
  r : ∀ {α : Type} {T : (Nat → α) → Lay → (Nat → α)}, Acts T → ∀ g, run T g l' = run T g ls
def R_copy : List Ob → Ms → Pk → Prop := fun os M post => ∃ (l : Addr) (d : Dk) (n : Int) (kit : NestedKey) (ab : List Str) (ls : List Lay), d.ok n ∧ n ≤ 800000 ∧ ab.length ≤ 100 ∧ Valid ab.length ls ∧ ls.length ≤ 18 ∧ os = [.r l, .d kit, .d (kP ab ls)] ∧ M = [(l, deckO d)] ∧ post = fun o' M' => ∃ (l' : List Lay) (d' : Dk), SlidE ab.length ls l' ∧ d'.ok (n + 48) ∧ o' = .d (kP ab l') ∧ M' = [(l, deckO d')]
theorem kn_copy (T : Txt w K mg) : Kn CX0 P w K mg base "_law_slid_copy" ["_law_deck_here", "_law_kit_here", "_law_picture"] 4 (spG w K R_copy) := by
  refine kn_mk (T.d 39 _ rfl) (T.g 39 _ rfl) sc_copy (fun fd F => F.bindsN fun _ _ _ _ _ _ us hl => match us, hl with | [_, _, _], _ => rfl) ?_ ?_
  · rintro _ _ _ ⟨_, _, _, _, _, _, _, _, _, _, _, rfl, _⟩; rfl
  · rintro cdv A outer s0 H E _ _ _ hr ⟨l, d, n, kit, ab, ls, hok, hn, hab, hv, hls, rfl, rfl, rfl⟩
    have hal : ((ab.map NestedKey.text).length : Int) = ab.length := by rw [List.length_map]
    refine so_forR (n := 0) PassesOwn.never rfl T.z_range (ED.ex ed_int ⟨12, rfl, by decide, by decide, fun i G M => ∃ l' d' g3 g4, SlidE ab.length ls l' ∧ d'.ok (n + 4 * i) ∧ G = [some (.r l), some (.d kit), some (.d (kP ab l')), g3, g4] ∧ M = [(l, deckO d')], ⟨ls, d, none, none, ⟨hv, hls, fun _ _ => rfl⟩, hok.le (by omega), rfl, rfl⟩, ?_, ?_⟩)
    · rintro i _ _ hi ⟨l', d', g3, g4, se, hok', rfl, rfl⟩
      refine go_name 3 ?_ sc_copy.nd
      refine so_asg 4 (ex_callD (kn_any T) (hr.mono (by omega)) pass0 (EDs.ex (eds_cons (ed_var 0) (eds_cons (ED.cast (ed_len (ks := ab.map .text) (ed_ix (k := kSs ab) (ed_var 2) ed_int rfl) T.z_len) (congrArg Ob.num hal)) (eds_cons (ed_ix (k := kLs l') (ed_var 2) ed_int rfl) eds_nil))) ⟨0, l, deckO d', _, rfl, ⟨l, d', n + 4 * i, ab.length, l', hok', by omega, by omega, by have := se.l; omega, rfl, rfl, rfl⟩, fun o' M' hh => ?_⟩)) sc_copy.nd
      obtain ⟨sl, d2, hok2, rfl, rfl⟩ := hh
      refine ⟨_, rfl, ?_⟩
      refine SO.at [l] H [some (.r l), some (.d kit), some (.d (kP ab l')), some (.num i), some (.d (kSl sl))] [(l, deckO d2)] ?_ rfl
      have hok3 : d2.ok (n + 4 * (i + 1 : Nat)) := hok2.le (by push_cast; omega)
      by_cases h17 : l'.length < 17
      · cases hs : slid ab.length l' sl with
        | some l2 =>
          have hx := slid_ok hs se.v
          refine so_ifT (eb_w (eb_and (k := true) (l := true) (EB.cast (eb_lt (ed_len (ks := l'.map kL) (ed_ix (k := kLs l') (ed_var 2) ed_int rfl) T.z_len) ed_int) (by rw [List.length_map]; exact decide_eq_true (by omega))) fun _ => eb_and1 (EB.cast (eb_notN (k := kLs l2) (ed_call (kn_due T) (hr.mono (by omega)) pass0 (eds_cons (ED.cast (ed_len (ks := ab.map .text) (ed_ix (k := kSs ab) (ed_var 2) ed_int rfl) T.z_len) (congrArg Ob.num hal)) (eds_cons (ed_ix (k := kLs l') (ed_var 2) ed_int rfl) (eds_cons (ed_var 4) eds_nil))) ⟨ab.length, l', sl, by omega, rfl, by rw [hs]; rfl⟩) ed_none) (by rw [decide_eq_false (fun z => by cases z)]; rfl)))) ?_
          refine so_asg 2 (ED.ex (ed_callX (o := .d (kP ab l2)) (kn_bslid T) hr passL (eds_cons (ed_var 1) (eds_cons (ed_var 2) (eds_cons (ed_var 4) eds_nil))) ⟨kit, ab, l', sl, by omega, rfl, by rw [hs]; rfl⟩) ?_) sc_copy.nd
          exact so_nil (so_nil ⟨l2, d2, _, _, ⟨hx.1, by have := slid_len hs; omega, fun Ac g => (hx.2 Ac g).trans (se.r Ac g)⟩, hok3, rfl, rfl⟩)
        | none =>
          refine so_ifF (eb_w (eb_and (k := true) (l := false) (EB.cast (eb_lt (ed_len (ks := l'.map kL) (ed_ix (k := kLs l') (ed_var 2) ed_int rfl) T.z_len) ed_int) (by rw [List.length_map]; exact decide_eq_true (by omega))) fun _ => eb_and1 (EB.cast (eb_notN (k := .none) (ed_call (kn_due T) (hr.mono (by omega)) pass0 (eds_cons (ED.cast (ed_len (ks := ab.map .text) (ed_ix (k := kSs ab) (ed_var 2) ed_int rfl) T.z_len) (congrArg Ob.num hal)) (eds_cons (ed_ix (k := kLs l') (ed_var 2) ed_int rfl) (eds_cons (ed_var 4) eds_nil))) ⟨ab.length, l', sl, by omega, rfl, by rw [hs]; rfl⟩) ed_none) (by rw [decide_eq_true rfl]; rfl)))) ?_
          exact so_nil ⟨l', d2, _, _, se, hok3, rfl, rfl⟩
      · refine so_ifF (eb_w (eb_and (k := false) (l := false) (EB.cast (eb_lt (ed_len (ks := l'.map kL) (ed_ix (k := kLs l') (ed_var 2) ed_int rfl) T.z_len) ed_int) (by rw [List.length_map]; exact decide_eq_false (by omega))) fun e => nomatch e)) ?_
        exact so_nil ⟨l', d2, _, _, se, hok3, rfl, rfl⟩
    · rintro _ _ ⟨l', d', g3, g4, se, hok', rfl, rfl⟩
      exact so_ret (ED.ex (ed_var 2) ⟨l', d', se, hok'.le (by show n + 4 * ((12 : Nat) : Int) ≤ _; omega), rfl, rfl⟩)
end
end Brd
set_option maxHeartbeats 4000000
namespace Brd
open PySem PySem.Spec PyProof.Rows L2 BM
theorem pl10 : pl 10 * pl 10 ≤ sizeLine ∧ 1 ≤ pl 10 ∧ pl 10 < 10000 := by decide
theorem words_mem {n : Nat} {ls : List Lay} (v : Valid n ls) {u : Wd} (h : u ∈ words n ls) : LV n u ∧ u.length ≤ pl (ls.length + 1) := by
  obtain ⟨i, hi⟩ := List.mem_iff_getElem?.mp h
  have e : (words n ls).getD i [] = u := by rw [List.getD_eq_getElem?_getD, hi]; rfl
  have h1 := lv_words v i
  have h2 := words_len v i
  rw [e] at h1 h2
  exact ⟨h1, h2⟩
theorem dp_kLa (ls : List Lay) : NestedKey.depthAll (ls.map kL) ≤ 8 := dpa_le fun k hk => by
  obtain ⟨l, _, rfl⟩ := List.mem_map.mp hk
  have := dp_kL l
  omega
section
variable {P : Program} {w : World} {K : PySem.W.Frag} {mg : Str → Option Value} {base : Heap}
/-! ### _law_right -/
theorem sc_right : FnScope ["_law_deck_here", "_law_kit_here", "_law_one", "_law_other", "_law_above", "_law_both", "_law_words", "_law_back_here", "_law_copy", "_law_k", "_law_at", "_law_place", "_law_step"] ["_law_deck_here", "_law_kit_here", "_law_one", "_law_other"] (defScope (top 54)) := ⟨rfl, rfl, rfl, by decide +kernel, rfl, by decide +kernel, by decide +kernel⟩
def R_right : List Ob → Ms → Pk → Prop := fun os M post => ∃ (l : Addr) (d : Dk) (n : Int) (kit : NestedKey) (ab ab2 : List Str) (l1 l2 : List Lay), d.ok n ∧ n ≤ 700000 ∧ ab.length ≤ 6 ∧ ab2.length = ab.length ∧ Valid ab.length l1 ∧ Valid ab.length l2 ∧ l1.length ≤ 9 ∧ l2.length ≤ 9 ∧ os = [.r l, .d kit, .d (kP ab l1), .d (kP ab2 l2)] ∧ M = [(l, deckO d)] ∧ post = fun o' M' => o' = .bl true ∧ ∃ d', M' = [(l, deckO d')]
theorem kn_right (T : Txt w K mg) : Kn CX0 P w K mg base "_law_right" ["_law_deck_here", "_law_kit_here", "_law_one", "_law_other"] 9 (spG w K R_right) := by
  refine kn_mk (T.d 40 _ rfl) (T.g 40 _ rfl) sc_right (fun fd F => F.bindsN fun _ _ _ _ _ _ us hl => match us, hl with | [_, _, _, _], _ => rfl) ?_ ?_
  · rintro _ _ _ ⟨_, _, _, _, _, _, _, _, _, _, _, _, _, _, _, _, rfl, _⟩; rfl
  · rintro cdv A outer s0 H E _ _ _ hr ⟨l, d, n, kit, ab, ab2, l1, l2, hok, hn, hab, hab2, v1, v2, z1, z2, rfl, rfl, rfl⟩
    have hline := line
    have v12 := valid_app v1 v2
    have z12 : (l1 ++ l2).length ≤ 18 := by rw [List.length_append]; omega
    have vb := valid_app v1 (valid_undone v1)
    have lu : (undone l1).length = l1.length := by simp [undone]
    have zb : (l1 ++ undone l1).length ≤ 18 := by rw [List.length_append, lu]; omega
    have hz12 : (l1.map kL).length + (l2.map kL).length ≤ sizeLine := by rw [List.length_map, List.length_map]; exact le16 (by omega)
    have hzb : (l1.map kL).length + ((undone l1).map kL).length ≤ sizeLine := by rw [List.length_map, List.length_map]; exact le16 (by omega)
    have eb : ∀ a b : List Lay, NestedKey.tup (a.map kL ++ b.map kL) = kLs (a ++ b) := fun a b => by unfold kLs; rw [List.map_append]
    refine so_asg 4 (ED.ex (ed_ix (k := kSs ab) (ed_var 2) ed_int rfl) ?_) sc_right.nd
    refine so_asg 5 (ED.ex (ed_tk (ek (k := kSs ab) (ed_var 4) (ek (k := kLs (l1 ++ l2)) (ED.cast (ed_catT (ks := l1.map kL) (ls := l2.map kL) (ed_ix (k := kLs l1) (ed_var 2) ed_int rfl) (ed_ix (k := kLs l2) (ed_var 3) ed_int rfl) hz12) (congrArg Ob.d (eb l1 l2))) ek0))) ?_) sc_right.nd
    refine so_asg 6 (ED.ex (ed_call (kn_words T) (hr.mono (by omega)) pass0 (eds_cons (ed_var 1) (eds_cons (ed_var 5) eds_nil)) ⟨kit, ab, l1 ++ l2, by omega, v12, z12, rfl, rfl⟩) ?_) sc_right.nd
    refine SO.at [l] H [some (.r l), some (.d kit), some (.d (kP ab l1)), some (.d (kP ab2 l2)), some (.d (kSs ab)), some (.d (kP ab (l1 ++ l2))), some (.d (kWs (words ab.length (l1 ++ l2)))), none, none, none, none, none, none] [(l, deckO d)] ?_ rfl
    have hwin : G_win [.d (kWs (words ab.length l1)), .d (kWs (words ab.length l2))] (.d (kWs (wordsIn (words ab.length l1) (words ab.length l2)))) := by
      refine ⟨words ab.length l1, words ab.length l2, pl 10, pl 10, fun i => Nat.le_trans (words_len v1 i) (pl_mono (by omega)), fun v hv => ?_, pl10.1, pl10.2.1, pl10.2.2, pl10.2.2, by rw [words_length]; omega, rfl, rfl⟩
      rw [words_length]
      obtain ⟨a1, a2⟩ := words_mem v2 hv
      exact ⟨a1, Nat.le_trans a2 (pl_mono (by omega))⟩
    refine so_ifF (EB.cast (eb_neT (ks := (words ab.length (l1 ++ l2)).map kW) (ls := (wordsIn (words ab.length l1) (words ab.length l2)).map kW) (hu64 hr) (ed_var 6) (ed_call (kn_win T) (hr.mono (by omega)) pass0 (eds_cons (ed_call (o := .d (kWs (words ab.length l1))) (kn_words T) (hr.mono (by omega)) pass0 (eds_cons (ed_var 1) (eds_cons (ed_var 2) eds_nil)) ⟨kit, ab, l1, by omega, v1, by omega, rfl, rfl⟩) (eds_cons (ed_call (o := .d (kWs (words ab.length l2))) (kn_words T) (hr.mono (by omega)) pass0 (eds_cons (ed_var 1) (eds_cons (ed_var 3) eds_nil)) ⟨kit, ab2, l2, by omega, by rw [hab2]; exact v2, by omega, rfl, by rw [hab2]⟩) eds_nil)) hwin) (dp_kWs _)) (by rw [words_in v1 v2, decide_eq_true rfl]; rfl)) ?_
    refine so_asg 7 (ED.ex (ed_tk (ek (k := kSs ab) (ed_var 4) (ek (k := kLs (l1 ++ undone l1)) (ED.cast (ed_catT (ks := l1.map kL) (ls := (undone l1).map kL) (ed_ix (k := kLs l1) (ed_var 2) ed_int rfl) (ed_call (o := .d (kLs (undone l1))) (kn_und T) (hr.mono (by omega)) pass0 (eds_cons (ed_ix (k := kLs l1) (ed_var 2) ed_int rfl) eds_nil) ⟨l1, by omega, rfl, rfl⟩) hzb) (congrArg Ob.d (eb l1 (undone l1)))) ek0))) ?_) sc_right.nd
    refine SO.at [l] H [some (.r l), some (.d kit), some (.d (kP ab l1)), some (.d (kP ab2 l2)), some (.d (kSs ab)), some (.d (kP ab (l1 ++ l2))), some (.d (kWs (words ab.length (l1 ++ l2)))), some (.d (kP ab (l1 ++ undone l1))), none, none, none, none, none] [(l, deckO d)] ?_ rfl
    have sm1 : Same ab (l1 ++ undone l1) [] := ⟨vb, fun x hx => absurd hx List.not_mem_nil, zb, Nat.zero_le _, words_undone v1, bel_undone rfl v1⟩
    have hidk : (List.range (ab.map NestedKey.text).length).map (fun (i : Nat) => NestedKey.tup [.num ((i : Int) + 1)]) = (ids ab.length).map kW := by
      rw [List.length_map]
      unfold ids
      rw [List.map_map]
      rfl
    have hal : ((ab.map NestedKey.text).length : Int) = ab.length := by rw [List.length_map]
    refine so_ifF (eb_w (eb_or (k := false) (l := false) (EB.cast (eb_neT (ks := (words ab.length (l1 ++ undone l1)).map kW) (ls := (ids ab.length).map kW) (hu64 hr) (ed_call (o := .d (kWs (words ab.length (l1 ++ undone l1)))) (kn_words T) (hr.mono (by omega)) pass0 (eds_cons (ed_var 1) (eds_cons (ed_var 7) eds_nil)) ⟨kit, ab, l1 ++ undone l1, by omega, vb, zb, rfl, rfl⟩) (ed_tupleN (EX.mono (ed_lc1 9 (n := (ab.map NestedKey.text).length) (item := fun i => .num i) (fun i => NestedKey.tup [.num ((i : Int) + 1)]) rfl sc_right.nd (blkOk_by (N := ["_law_deck_here", "_law_kit_here", "_law_one", "_law_other", "_law_above", "_law_both", "_law_words", "_law_back_here", "_law_copy", "_law_k", "_law_at", "_law_place", "_law_step"]) (sc := defScope (top 54)) (by decide +kernel)) (by rw [List.length_map]; exact le16 (by omega)) (fun _ _ _ _ _ => pg_name (i := 9) sc_right.nd rfl (Or.inl rfl)) (ir_range (n := ((ab.map NestedKey.text).length : Int)) (ed_len (ks := ab.map .text) (ed_var 4) T.z_len) (by omega) (by omega) T.z_range) (fun i M hi s H Cc cl fp => ed_tk (ek (k := .num ((i : Int) + 1)) (ed_add (ed_var 9) ed_int) ek0))) fun o M ⟨q, e1, e2⟩ => ⟨q, e1, by rw [e2, hidk]⟩) T.z_tuple) (dp_kWs _)) (by rw [words_undone v1, decide_eq_true rfl]; rfl)) fun _ => eb_or1 (eb_not (k := true) (et_val (ED.ex (ed_call (kn_alike T) hr pass0 (eds_cons (ed_var 1) (eds_cons (ed_var 7) (eds_cons (ed_tk (ek (k := kSs ab) (ed_var 4) (ek (k := .tup []) (ed_tk ek0 (Nat.zero_le _)) ek0))) eds_nil))) ⟨kit, ab, l1 ++ undone l1, [], by omega, sm1, rfl, rfl⟩) ⟨_, rfl, rfl, rfl⟩))))) ?_
    refine so_asg 8 (ex_callD (kn_copy T) (hr.mono (by omega)) pass0 (EDs.ex (eds_cons (ed_var 0) (eds_cons (ed_var 1) (eds_cons (ed_var 5) eds_nil))) ⟨0, l, deckO d, _, rfl, ⟨l, d, n, kit, ab, l1 ++ l2, hok, by omega, by omega, v12, z12, rfl, rfl, rfl⟩, fun o' M' hh => ?_⟩)) sc_right.nd
    obtain ⟨l3, d3, se, hok3, rfl, rfl⟩ := hh
    refine ⟨_, rfl, ?_⟩
    refine SO.at [l] H [some (.r l), some (.d kit), some (.d (kP ab l1)), some (.d (kP ab2 l2)), some (.d (kSs ab)), some (.d (kP ab (l1 ++ l2))), some (.d (kWs (words ab.length (l1 ++ l2)))), some (.d (kP ab (l1 ++ undone l1))), some (.d (kP ab l3)), none, none, none, none] [(l, deckO d3)] ?_ rfl
    have hw3 : words ab.length l3 = words ab.length (l1 ++ l2) := words_eq se.v v12 (se.r gstep_acts gz)
    have sm2 : Same ab (l1 ++ l2) l3 := ⟨v12, se.v, z12, se.l, hw3.symm, (bel_eq rfl se.v v12 fun g => se.r sstep_acts g).symm⟩
    refine so_ifF (eb_w (eb_or (k := false) (l := false) (EB.cast (eb_neT (ks := (words ab.length l3).map kW) (ls := (words ab.length (l1 ++ l2)).map kW) (hu64 hr) (ed_call (o := .d (kWs (words ab.length l3))) (kn_words T) (hr.mono (by omega)) pass0 (eds_cons (ed_var 1) (eds_cons (ed_var 8) eds_nil)) ⟨kit, ab, l3, by omega, se.v, se.l, rfl, rfl⟩) (ed_var 6) (dp_kWs _)) (by rw [hw3, decide_eq_true rfl]; rfl)) fun _ => eb_or1 (eb_not (k := true) (et_val (ED.ex (ed_call (kn_alike T) hr pass0 (eds_cons (ed_var 1) (eds_cons (ed_var 5) (eds_cons (ed_var 8) eds_nil))) ⟨kit, ab, l1 ++ l2, l3, by omega, sm2, rfl, rfl⟩) ⟨_, rfl, rfl, rfl⟩))))) ?_
    refine so_ifK (k := decide (l3.map kL = [])) (eb_eqT (ks := l3.map kL) (ls := []) (hu64 hr) (ed_ix (k := kLs l3) (ed_var 8) ed_int rfl) (ed_tk ek0 (Nat.zero_le _)) (dp_kLa l3)) (fun h => ?_) fun h => so_nil ?_
    · exact so_ret (ED.ex ed_bool ⟨rfl, d3, rfl⟩)
    have hne : l3 ≠ [] := fun e => of_decide_eq_false h (by rw [e]; rfl)
    have hpos : 0 < l3.length := List.length_pos_iff.mpr hne
    have h3l : ((l3.map kL).length : Int) = l3.length := by rw [List.length_map]
    have h18 := se.l
    refine so_asg 10 (ex_draw (j := 0) (kn_draw T) (hr.mono (by omega)) pass0 (ed_var 0) (ed_len (ks := l3.map kL) (ed_ix (k := kLs l3) (ed_var 8) ed_int rfl) T.z_len) rfl hok3 (by omega) (by omega) (by omega) fun at_ d4 hat hok4 => ?_) sc_right.nd
    have hat' : at_ < l3.length := by omega
    obtain ⟨p, o, hpo⟩ : ∃ p o, l3[at_]? = some (p, o) := ⟨l3[at_].1, l3[at_].2, List.getElem?_eq_getElem hat'⟩
    have hsplit : l3 = l3.take at_ ++ (p, o) :: l3.drop (at_ + 1) := by
      conv => lhs; rw [← List.take_append_drop at_ l3]
      rw [List.drop_eq_getElem_cons hat', (List.getElem?_eq_some_iff.mp hpo).2]
    refine SO.at [l] H [some (.r l), some (.d kit), some (.d (kP ab l1)), some (.d (kP ab2 l2)), some (.d (kSs ab)), some (.d (kP ab (l1 ++ l2))), some (.d (kWs (words ab.length (l1 ++ l2)))), some (.d (kP ab (l1 ++ undone l1))), some (.d (kP ab l3)), none, some (.num at_), none, none] [(l, deckO d4)] ?_ rfl
    refine so_asgG (ED.ex (ed_ix (k := kL (p, o)) (ks := l3.map kL) (ed_ix (k := kLs l3) (ed_var 8) ed_int rfl) (ed_var 10) (atI_nat (by rw [List.getElem?_map, hpo]; rfl))) (go_tup (ks := [.num p, kS o]) rfl (gos_cons (go_name 11 (gos_cons (go_name 12 (gos_nil ?_) sc_right.nd)) sc_right.nd))))
    have hml : (l3.map kL).length = l3.length := List.length_map _
    have hz1 : ((l3.map kL).take at_).length + [kL (p, !o)].length ≤ sizeLine := by rw [List.length_take]; exact le16 (by simp only [List.length_cons, List.length_nil]; omega)
    have hz2 : ((l3.map kL).take at_ ++ [kL (p, !o)]).length + ((l3.map kL).drop (at_ + 1)).length ≤ sizeLine := by rw [List.length_append, List.length_take, List.length_drop, hml]; exact le16 (by simp only [List.length_cons, List.length_nil]; omega)
    have e9 : Ob.tup (((l3.map kL).take at_ ++ [kL (p, !o)]) ++ (l3.map kL).drop (at_ + 1)) = .d (kLs (l3.take at_ ++ (p, !o) :: l3.drop (at_ + 1))) := by
      unfold kLs
      rw [List.map_append, List.map_take, List.map_cons, List.map_drop, List.append_assoc]
      rfl
    refine so_asg 3 (ED.ex (ED.cast (ed_catT (ed_catT (ls := [kL (p, !o)]) (ed_to at_ (ks := l3.map kL) (ed_ix (k := kLs l3) (ed_var 8) ed_int rfl) (ed_var 10)) (ed_tk (ek (k := kL (p, !o)) (ed_tk (ek (k := .num p) (ed_var 11) (ek (k := kS (!o)) (ed_tk (ek (k := .text (stS (!o))) (ed_ixNew (eds_cons ed_str (eds_cons ed_str eds_nil)) (fun M => ed_intB (ED.cast (ed_eqT (ks := [.text (stS o)]) (ls := [.text "over"]) (hu64 hr) (ed_var 12) (ed_tk (ek ed_str ek0)) (dp_st _)) (congrArg Ob.bl (dec_step _))) T.z_int) (turned_at _)) ek0) (show 1 ≤ 1000 by decide)) ek0)) (show 2 ≤ 1000 by decide)) ek0)) hz1) (ed_from (at_ + 1) (ks := l3.map kL) (ed_ix (k := kLs l3) (ed_var 8) ed_int rfl) (ed_addN at_ 1 (ed_var 10) ed_int)) hz2) e9) ?_) sc_right.nd
    obtain ⟨l4, hl4⟩ : ∃ l4, l4 = l3.take at_ ++ (p, !o) :: l3.drop (at_ + 1) := ⟨_, rfl⟩
    refine SO.at [l] H [some (.r l), some (.d kit), some (.d (kP ab l1)), some (.d (kLs l4)), some (.d (kSs ab)), some (.d (kP ab (l1 ++ l2))), some (.d (kWs (words ab.length (l1 ++ l2)))), some (.d (kP ab (l1 ++ undone l1))), some (.d (kP ab l3)), none, some (.num at_), some (.num p), some (.d (kS o))] [(l, deckO d4)] ?_ (by rw [hl4]; rfl)
    have hv3 : Valid ab.length (l3.take at_ ++ (p, o) :: l3.drop (at_ + 1)) := by rw [← hsplit]; exact se.v
    have hv4 : Valid ab.length l4 := fun x hx => by
      rw [hl4] at hx
      rcases List.mem_append.mp hx with hx | hx
      · exact hv3 x (List.mem_append_left _ hx)
      · rcases List.mem_cons.mp hx with hx | hx
        · subst hx
          exact hv3 (p, o) (List.mem_append_right _ List.mem_cons_self)
        · exact hv3 x (List.mem_append_right _ (List.mem_cons_of_mem _ hx))
    have hz4 : l4.length ≤ 18 := by
      rw [hl4, List.length_append, List.length_cons, List.length_take, List.length_drop]
      omega
    have hne4 : words ab.length (l1 ++ l2) ≠ words ab.length l4 := by
      rw [← hw3, hl4]
      have := turned_ne hv3
      rw [← hsplit] at this
      exact this
    refine so_ret (ex_cmp op_eq (ex_ix ix_tup (ex_call (kn_cmp T) (hr.mono (by omega)) pass0 (EDs.ex (eds_cons (ed_var 1) (eds_cons (ed_var 5) (eds_cons (ed_tk (ek (k := kSs ab) (ed_var 4) (ek (k := kLs l4) (ed_var 3) ek0))) eds_nil))) ⟨_, ⟨kit, ab, l1 ++ l2, l4, by omega, v12, hv4, z12, hz4, rfl, rfl, rfl⟩, fun o' Mn hh => ?_⟩))))
    obtain ⟨rfl, x, y, rfl, hx, _⟩ := hh
    cases hx hne4
    exact ED.ex ed_int (rv_ixT (ks := [.text "unlike", y]) (k := .text "unlike") rfl (ED.ex ed_str (rv_eqS fun k e => ⟨by rw [e]; rfl, d4, rfl⟩)))
end
end Brd
set_option maxHeartbeats 4000000
namespace Brd
open PySem PySem.Spec PyProof.Rows L2 BM
section
variable {P : Program} {w : World} {K : PySem.W.Frag} {mg : Str → Option Value} {base : Heap} {x qual : Str} {params : Arguments} {body : List Stmt} {scope : Scope} {f : Addr} {N ps : List Str} {k : Nat}
theorem fn_mkS {fd : FuncData} {R : List Int → List Ob → Pk → Prop} (F : FunD K x qual params body scope [] [] f fd) (S : FnScope N ps scope)
    (len : ∀ ns os post, R ns os post → os.length + 1 = ps.length)
    (hbody : ∀ (cdv : Value) (A : Around) (outer : List Env) (s : Shared) (H : Hp) (E : XK) (a : Addr) (ns : List Int) (os : List Ob) (post : Pk), Room k (A.deeper (envOfC qual scope s.heap.objs.size f cdv)) → R ns os post → SqL K H a (ns.map V.int) →
      SO (cxOf CX0 P w K mg base N qual scope f cdv A outer s H E).nox z0 ⟨[], H, (Ob.r a :: os).map some ++ List.replicate (N.length - (os.length + 1)) none, []⟩ body { nx := fun _ M' => post (.d .none) M', rt := post }) :
    FnOk P w K mg base CX0 (k + 1) f fd ps (spS w K R) := by
  refine F.ok S (fun vs H Q E ⟨a, ns, os, post, hR, ho, _⟩ => by rw [← ho.length]; exact len ns os post hR) (fun cdv A outer s H vs Q E hr ⟨a, ns, os, post, hR, ho, hsq, hq⟩ => ⟨_, pss_w.nox, ?_⟩)
  refine hbody cdv A outer s H E a ns os post hr hR hsq _ _ H ⟨fun G M' σ H' q t A' => ?_, fun o M' G σ v H' q t A' r => ?_, fun _ _ _ _ q => q.elim, fun _ _ _ _ q => q.elim, fun _ _ _ _ q => q.elim⟩ ⟨start_sl ho, fun p hp => absurd hp List.not_mem_nil, List.nodup_nil, fun _ _ e _ => e, fun p hp => absurd hp List.not_mem_nil, Tk.refl H⟩
  · exact hq _ M' _ H' q (fun a x e => A'.kp a x e List.not_mem_nil) A'.mo A'.nd (fun p hp => (A'.own p hp).elim (fun z => absurd z List.not_mem_nil) id) Dv.none
  · exact hq o M' v H' q (fun a x e => A'.kp a x e List.not_mem_nil) A'.mo A'.nd (fun p hp => (A'.own p hp).elim (fun z => absurd z List.not_mem_nil) id) r
end
section
variable {P : Program} {w : World} {K : PySem.W.Frag} {mg : Str → Option Value} {base : Heap}
/-! ### law -/
theorem sc_law : FnScope ["_law_script", "_law_k", "_law_deck_here", "_law_kit_here", "_law_many", "_law_one", "_law_other"] ["_law_script"] (defScope (top 55)) := ⟨rfl, rfl, rfl, by decide +kernel, rfl, by decide +kernel, by decide +kernel⟩
def R_law : List Int → List Ob → Pk → Prop := fun ns os post => os = [] ∧ post = fun o' M' => o' = .bl true ∧ M' = []
theorem ok_law (T : Txt w K mg) {fd : FuncData} {f : Addr} (F : FunD K "law" "law" (defArgs (top 55)) (defBody (top 55)) (defScope (top 55)) [] [] f fd) : FnOk P w K mg base CX0 10 f fd ["_law_script"] (spS w K R_law) := by
  refine fn_mkS F sc_law (fun ns os post h => by obtain ⟨rfl, _⟩ := h; rfl) ?_
  rintro cdv A outer s0 H E a ns _ _ hr ⟨rfl, rfl⟩ hS
  refine so_forR (n := 0) PassesOwn.never rfl T.z_range (ED.ex ed_int ⟨5, rfl, by decide, by decide, fun i G M => ∃ g1 g2 g3 g4 g5 g6, G = [some (.r a), g1, g2, g3, g4, g5, g6] ∧ M = [], ⟨none, none, none, none, none, none, rfl, rfl⟩, ?_, ?_⟩)
  · rintro i _ _ hi ⟨g1, g2, g3, g4, g5, g6, rfl, rfl⟩
    refine go_name 1 ?_ sc_law.nd
    refine so_asg 2 (ex_callS (kn_deckat T) (hr.mono (by omega)) pass0 hS List.not_mem_nil (EDs.ex (eds_cons (ed_var 0) (eds_cons (ed_var 1) eds_nil)) ⟨[.num i], _, rfl, ⟨i, by omega, rfl, rfl⟩, fun o' Mn hh => ?_⟩)) sc_law.nd
    obtain ⟨l, d, hok, rfl, rfl⟩ := hh
    refine so_asg 3 (ex_callD (kn_kit T) (hr.mono (by omega)) pass0 (EDs.ex (eds_cons (ed_var 2) (eds_cons ed_str eds_nil)) ⟨0, l, deckO d, _, rfl, ⟨l, d, 0, hok, by decide, rfl, rfl, rfl⟩, fun o' M' hh => ?_⟩)) sc_law.nd
    obtain ⟨ss, d2, hs1, hs4, hok2, rfl, rfl⟩ := hh
    refine ⟨_, rfl, ?_⟩
    refine SO.at [] H [some (.r a), some (.num i), some (.r l), some (.d (kK ss)), g4, g5, g6] [(l, deckO d2)] ?_ rfl
    refine so_asg 4 (ex_op op_add (ED.ex ed_int (ex_draw (j := 0) (kn_draw T) (hr.mono (by omega)) pass0 (ed_var 2) ed_int rfl hok2 (by decide) (by decide) (by decide) fun r3 d3 hr3 hok3 => rv_int (o := .num ((r3 + 1 : Nat) : Int)) (fun M eM => ?_) fun H => ?_))) sc_law.nd
    · subst eM
      obtain ⟨many, hmany⟩ : ∃ many, many = r3 + 1 := ⟨_, rfl⟩
      rw [← hmany]
      have hm1 : 1 ≤ many := by omega
      have hm6 : many ≤ 6 := by omega
      refine SO.at [] H [some (.r a), some (.num i), some (.r l), some (.d (kK ss)), some (.num many), g5, g6] [(l, deckO d3)] ?_ rfl
      refine so_asg 5 (ex_callD (kn_lbr T) (hr.mono (by omega)) pass0 (EDs.ex (eds_cons (ed_var 2) (eds_cons (ed_var 3) (eds_cons (ed_var 4) (eds_cons ed_int eds_nil)))) ⟨0, l, deckO d3, _, rfl, ⟨l, d3, _, ss, many, hok3, by decide, hs1, hs4, hm1, hm6, rfl, rfl, rfl⟩, fun o' M' hh => ?_⟩)) sc_law.nd
      obtain ⟨ab, l1, d4, hab, v1, z1, hok4, rfl, rfl⟩ := hh
      refine ⟨_, rfl, ?_⟩
      refine so_asg 6 (ex_callD (kn_lbr T) (hr.mono (by omega)) pass0 (EDs.ex (eds_cons (ed_var 2) (eds_cons (ed_var 3) (eds_cons (ed_var 4) (eds_cons ed_int eds_nil)))) ⟨0, l, deckO d4, _, rfl, ⟨l, d4, _, ss, many, hok4, by decide, hs1, hs4, hm1, hm6, rfl, rfl, rfl⟩, fun o' M' hh => ?_⟩)) sc_law.nd
      obtain ⟨abx, l2, d5, habx, v2, z2, hok5, rfl, rfl⟩ := hh
      refine ⟨_, rfl, ?_⟩
      refine SO.at [] H [some (.r a), some (.num i), some (.r l), some (.d (kK ss)), some (.num many), some (.d (kP ab l1)), some (.d (kP abx l2))] [(l, deckO d5)] ?_ rfl
      have v1' : Valid ab.length l1 := by rw [hab]; exact v1
      refine so_asg 6 (ED.ex (ed_tk (ek (k := kSs (bel ab l1)) (ed_call (kn_sbel T) (hr.mono (by omega)) pass0 (eds_cons (ed_ix (k := kSs ab) (ed_var 5) ed_int rfl) (eds_cons (ed_ix (k := kLs l1) (ed_var 5) ed_int rfl) eds_nil)) ⟨ab, l1, by omega, v1', rfl, rfl⟩) (ek (k := kLs l2) (ed_ix (ed_var 6) ed_int rfl) ek0))) ?_) sc_law.nd
      refine SO.at [] H [some (.r a), some (.num i), some (.r l), some (.d (kK ss)), some (.num many), some (.d (kP ab l1)), some (.d (kP (bel ab l1) l2))] [(l, deckO d5)] ?_ rfl
      have hbl : (bel ab l1).length = ab.length := bel_len rfl v1'
      refine so_if (et_not (et_val (ex_callD (kn_right T) hr pass0 (EDs.ex (eds_cons (ed_var 2) (eds_cons (ed_var 3) (eds_cons (ed_var 5) (eds_cons (ed_var 6) eds_nil)))) ⟨0, l, deckO d5, _, rfl, ⟨l, d5, _, kK ss, ab, bel ab l1, l1, l2, hok5, by decide, by omega, hbl, v1', by rw [hab]; exact v2, z1, z2, rfl, rfl, rfl⟩, fun o' M' hh => ?_⟩))))
      obtain ⟨rfl, d6, rfl⟩ := hh
      refine ⟨_, rfl, true, rfl, ?_⟩
      refine @iteF _ (_) (so_nil ?_)
      exact so_drop (M := []) (so_nil ⟨_, _, _, _, _, _, rfl, rfl⟩) (List.nil_sublist _)
    · show Dv _ H (.num ((r3 + 1 : Nat) : Int)) (.int (1 + (r3 : Int)))
      rw [show ((r3 + 1 : Nat) : Int) = 1 + (r3 : Int) by omega]
      exact Dv.num _
  · rintro _ _ ⟨g1, g2, g3, g4, g5, g6, rfl, rfl⟩
    exact so_ret (ED.ex ed_bool ⟨rfl, rfl⟩)
end
end Brd
set_option maxHeartbeats 0
namespace Brd
open PySem PySem.Spec PyProof.Rows L2
def fa : List He.Fa := ([.glo "opposite", .glo "put_together", .glo "crossed_words", .glo "words_of", .glo "feet_taken", .glo "given_for", .glo "wires_behind", .glo "wires_at", .glo "below_of", .glo "is_number", .glo "layers_turned", .glo "layers_paired", .glo "layers_threed", .glo "layers_slid", .glo "layers_twined", .glo "braid_slid", .glo "braid_back", .glo "braid_walks", .glo "slides_at", .glo "braids_near", .glo "braid_paper", .glo "braids_compared", .glo "_law_cell_at", .glo "_law_deck", .glo "_law_draw", .glo "_law_kit", .glo "_law_words_in", .glo "_law_deck_at", .glo "_law_times", .glo "_law_back", .glo "_law_is_place", .glo "_law_swapped", .glo "_law_threed", .glo "_law_layers_due", .glo "_law_braid", .glo "_law_any_slide", .glo "_law_undone", .glo "_law_sorts_below", .glo "_law_alike", .glo "_law_slid_copy", .glo "_law_right", .glo "law"] : List He.Fa) ++ ([.free "tuple", .free "reversed", .free "len", .free "range", .free "isinstance", .free "int", .free "bool", .free "str", .free "abs", .free "max", .free "list"] : List He.Fa) ++ ([.int "MOST_SLIDES" 2, .glo "NoSlide", .glo "STEPS", .glo "SIDES", .exc "NoSlide", .exm "NoSlide" "NoSlide" true] : List He.Fa)

def tsd : List He.Tab := [((fun K => He.ga K "SIDES"), ["left", "right"])]
def tyB (K : PySem.W.Frag) : Bool := match K.lookup (He.ga K "STEPS") with
  | some ⟨.type c, none, _, _⟩ => decide (c = "tuple")
  | _ => false
theorem tyB_ok {K : PySem.W.Frag} (h : tyB K = true) : ∃ o, K.lookup (He.ga K "STEPS") = some o ∧ o.cls = .type "tuple" ∧ o.dict = none := by
  unfold tyB at h
  cases q : K.lookup (He.ga K "STEPS") with
  | none =>
    rw [q] at h
    cases h
  | some o =>
    obtain ⟨oc, od, dt, osl⟩ := o
    rw [q] at h
    cases oc with
    | type c =>
      cases od with
      | none => exact ⟨_, rfl, congrArg Value.type (of_decide_eq_true h), rfl⟩
      | some d => cases h
    | _ => cases od <;> cases h
def exb (K : PySem.W.Frag) : Bool := tyB K && (He.tupB K "STEPS" [.str "over", .str "under"] && He.valsB K (He.ga K "SIDES") [("left", .str "right"), ("right", .str "left")])
def loose : List Str := (["opposite", "put_together", "crossed_words", "words_of", "WireError", "NoSlide", "box_names", "feet_of", "feet_taken", "given_for", "wires_behind", "wires_at", "below_of", "STEPS", "SIDES", "MOST_SLIDES", "is_number", "layers_turned", "layers_paired", "layers_threed", "layers_slid", "layers_twined", "braid_slid", "braid_back", "braid_walks", "slides_at", "braids_near", "braid_paper", "braids_compared", "_law_cell_at"] : List Str) ++ (["_law_deck", "_law_draw", "_law_feet", "_law_kit", "_law_words_in", "_law_deck_at", "_law_times", "_law_back", "_law_is_place", "_law_swapped", "_law_threed", "_law_layers_due", "_law_braid", "_law_any_slide", "_law_undone", "_law_sorts_below", "_law_alike", "_law_slid_copy", "_law_right"] : List Str)

abbrev R : PySem.W.OpenRow := PySem.W.OpenLaw.row PySem.Challenge.rw_slidewires_k64_whole_braids_done_and_und
abbrev hk : PySem.W.Hook := He.hookX 4 fa fn tsd [] exb
def ob (s : PySem.W.SharedT) : He.AlX := He.obsX 4 fa fn tsd [] exb (HandSHeadRun.getT s)
theorem ob_eq (s : PySem.W.SharedT) : ob s = hk.obs s.abs := He.obsX_eq (HandSHeadRun.getT_eq s)
theorem run (w : World) : HandSHeadRun.RunEq R (PySem.W.view R.prog [55]) hk ob 4000 loose w := by
  refine PySem.W.byRow2 "special-get-raises" (P := fun w => HandSHeadRun.RunEq R (PySem.W.view R.prog [55]) hk ob 4000 loose w) ?_ ?_ w
  · intro w os
    kernel_rfl
  · intro w os
    kernel_rfl
/-! ### what the top has left, as Txt -/
theorem fn_glo : ∃ rest, fa = (fn.map fun d => He.Fa.glo d.at_.1) ++ rest := ⟨_, rfl⟩
theorem fn_at : (fn.all fun d => d.at_.2.isNone) = true := rfl
theorem txt_of {w : World} {K : PySem.W.Frag} {h : Heap} {mg : Str → Option Value} (X : K.In h) (G : h.Ns mainGlobals mg) (c : He.SaysX fa fn tsd [] exb w h K) : Txt w K mg := by
  have cd := c.t.d
  obtain ⟨x1, x2⟩ := He.ba c.more
  obtain ⟨x2, x3⟩ := He.ba x2
  obtain ⟨o, o1, o2, o3⟩ := tyB_ok x1
  have fr : ∀ x, He.Fa.free x ∈ fa → mg x = none := fun x hx => He.free_ok X G (cd.facts hx)
  have ex := He.exc_ok (cd.facts (f := .exc "NoSlide") (by simp [fa]))
  refine ⟨fun i d hd => cd.def_ i hd, fun i d hd => ?_, fr _ (by simp [fa]), fr _ (by simp [fa]), fr _ (by simp [fa]), fr _ (by simp [fa]), fr _ (by simp [fa]), fr _ (by simp [fa]), fr _ (by simp [fa]), fr _ (by simp [fa]), fr _ (by simp [fa]), fr _ (by simp [fa]), fr _ (by simp [fa]), ?_, He.glo_ok X G (cd.facts (f := .glo "STEPS") (by simp [fa])), fun H => He.tupB_ok x2 H, fun H => .inr (.inl ⟨rfl, o, o1, o2, o3⟩), He.glo_ok X G (cd.facts (f := .glo "SIDES") (by simp [fa])), c.t.tab 0, ?_, ?_, He.int_ok X G (cd.facts (f := .int "MOST_SLIDES" 2) (by simp [fa]))⟩
  · have hm := List.mem_of_getElem? hd
    have h2 := List.all_eq_true.mp fn_at d hm
    have h1 : He.Fa.glo d.at_.1 ∈ fa := by
      obtain ⟨rest, e⟩ := fn_glo
      rw [e]
      exact List.mem_append_left _ (List.mem_map.mpr ⟨d, hm, rfl⟩)
    have h3 := He.glo_ok X G (cd.facts h1)
    have e : He.fAd K d.at_ = He.ga K d.at_.1 := by
      unfold He.fAd
      cases q : d.at_.2 with
      | none => rfl
      | some m => rw [q] at h2; cases h2
    rw [e]
    exact h3
  · exact ⟨He.glo_ok X G (cd.facts (f := .glo "NoSlide") (by simp [fa])), ex.1, ex.2.1, ex.2.2.1, ex.2.2.2, He.exm_ok (cd.facts (f := .exm "NoSlide" "NoSlide" true) (by simp [fa]))⟩
  · exact He.valsB_ok (q := ("left", .str "right")) x3 (by simp)
  · exact He.valsB_ok (q := ("right", .str "left")) x3 (by simp)
theorem facts {P : Program} {w : World} {K : PySem.W.Frag} {h : Heap} {mg : Str → Option Value} {f : Addr} (X : K.In h) (G : h.Ns mainGlobals mg) (hfa : mg ("law" : Str) = some (.ref f)) (c : He.SaysX fa fn tsd [] exb w h K) :
    ∃ fd : FuncData, (∀ (s : Shared) (v : Value), BindsTo s fd ⟨[v], []⟩ [("_law_script", v)]) ∧ ∀ base : Heap, K.In base → base.Ns mainGlobals mg → FnOk P w K mg base CX0 10 f fd ["_law_script"] (spS w K R_law) := by
  have T := txt_of X G c
  obtain ⟨fd, F⟩ := T.d 41 (dD "law" 55) rfl
  have e := hfa.symm.trans (T.g 41 (dD "law" 55) rfl)
  cases e
  have b := FunD.bindsA (ps := ["_law_script"]) F fun _ _ _ _ _ _ us hl => match us, hl with | [_], _ => rfl
  exact ⟨fd, fun s v => b s [v] rfl, fun base _ _ => ok_law T F⟩
end Brd
open PySem PySem.W PySem.Calls PyProof.Rows
theorem PySem.Challenge.cw_slidewires_k64_whole_braids_done_and_und_holds : PySem.Challenge.rw_slidewires_k64_whole_braids_done_and_und.Holds := by
  w_on; o_law
  refine HandSHeadRun.head_any (r := OpenLaw.row PySem.Challenge.rw_slidewires_k64_whole_braids_done_and_und) (q := view (OpenLaw.row PySem.Challenge.rw_slidewires_k64_whole_braids_done_and_und).prog [55]) (H := Brd.hk) (ob := Brd.ob) (M := 4000) (loose := Brd.loose) (d := HandSHeadRun.topDef (OpenLaw.row PySem.Challenge.rw_slidewires_k64_whole_braids_done_and_und).prog 55) (kwd := []) Brd.ob_eq
    (by kernel_rfl) (fun s => by kernel_rfl) Brd.run (by kernel_rfl) (by kernel_rfl) (by kernel_rfl) (by rfl) (by first | assumption | decide +kernel) (by decide +kernel) ⟨rfl, rfl, rfl, rfl, rfl, by decide +kernel⟩ ?hw ?hc
  case hw => w_witness2
  case hc =>
    refine L2.walk_ofE (l := PySem.Challenge.rw_slidewires_k64_whole_braids_done_and_und) (n := 63) (k := 10) (x := "_law_script") (CX := L2.CX0) rfl (by decide) (by kernel_rfl) ⟨rfl, by decide, by decide⟩ ?F (fun _ _ _ _ z => z)
    intro w mg fa h Y G hmg0
    obtain ⟨K, KX, c⟩ := Y
    have hmg : mg ("law" : PySem.Str) = some (.ref fa) := by
      have e : (HandSHeadRun.topDef (OpenLaw.row PySem.Challenge.rw_slidewires_k64_whole_braids_done_and_und).prog 55).name = ("law" : PySem.Str) := by kernel_rfl
      rw [← e]
      exact hmg0
    obtain ⟨fd, hb, hF⟩ := Brd.facts (P := (PySem.Challenge.rw_slidewires_k64_whole_braids_done_and_und).prog) (w := w) KX G hmg c
    exact ⟨K, fd, Brd.spS w K Brd.R_law, KX, hb, fun H a ns hl _ hS => ⟨a, ns, [], _, ⟨rfl, rfl⟩, .cons rfl .nil, hS, fun o M' v H' ⟨e1, _⟩ _ _ _ _ r => by subst e1; exact r⟩, hF⟩
