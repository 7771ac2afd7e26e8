import PyProof.Rows.All
import Wide.All
import OpenK.AllK
import Wide.FinOn
import HandS.ForMost
import HandS.ForExc
import HandS.Deep
import HandS.IsInst
import HandS.Wide
import HandS.WideBits
import HandS.Flow
import HandS.Defaults
import HandS.TupAny
import HandS.TupLe
import HandS.RaiseMore
import KE.KRevSl
import KE.DataEq
import KE.KeyNested
import HandS.Style
import KE.GoesMore
import HandS.SortRule
import HandS.SortInts
import HandS.ExcValue
import HandS.ExcOwn
import HandS.Star
import KE.KAssignIn
import HandS.EndBits
import HandS.Head0
import HandS.Head1
import HandS.Head2
import HandS.HeadHook1
import HandS.HeadHook2
import KE.KStateDown
import Lean
import PySem.Challenge.RW_planesplits_k69_greatest_numbers_of_coun
set_option Elab.async false
set_option linter.all false
set_option maxRecDepth 100000
set_option maxHeartbeats 3999000
namespace PV
open PySem L2

/-! ### keys of dicts -/
inductive TK where
  | int (i : Int) | str (x : Str) | tup (ks : List TK)
mutual
def TK.beq : TK → TK → Bool
  | .int i, .int j => decide (i = j)
  | .str x, .str y => decide (x = y)
  | .tup a, .tup b => TK.beqs a b
  | _, _ => false
def TK.beqs : List TK → List TK → Bool
  | [], [] => true
  | a :: r, b :: s => TK.beq a b && TK.beqs r s
  | _, _ => false
end
mutual
theorem TK.beq_iff : ∀ {a b : TK}, TK.beq a b = true ↔ a = b
  | .int i, .int j => by simp [TK.beq]
  | .str x, .str y => by simp [TK.beq]
  | .tup a, .tup b => by simp [TK.beq, TK.beqs_iff (a := a) (b := b)]
  | .int _, .str _ => by simp [TK.beq]
  | .int _, .tup _ => by simp [TK.beq]
  | .str _, .int _ => by simp [TK.beq]
  | .str _, .tup _ => by simp [TK.beq]
  | .tup _, .int _ => by simp [TK.beq]
  | .tup _, .str _ => by simp [TK.beq]
theorem TK.beqs_iff : ∀ {a b : List TK}, TK.beqs a b = true ↔ a = b
  | [], [] => by simp [TK.beqs]
  | [], _ :: _ => by simp [TK.beqs]
  | _ :: _, [] => by simp [TK.beqs]
  | a :: r, b :: s => by simp [TK.beqs, TK.beq_iff (a := a) (b := b), TK.beqs_iff (a := r) (b := s)]
end
instance : DecidableEq TK := fun a b => decidable_of_iff (TK.beq a b = true) TK.beq_iff
mutual
def TK.hash (w : World) : TK → Int
  | .int i => keyH w (.inl i)
  | .str x => keyH w (.inr x)
  | .tup ks => reduceHash (Builtin.Tuple.tupleHashOf (TK.hashes w ks))
def TK.hashes (w : World) : List TK → List Int
  | [] => []
  | k :: r => TK.hash w k :: TK.hashes w r
end
mutual
def TK.draws : TK → Nat
  | .int _ => 1
  | .str _ => 1
  | .tup ks => TK.drawsAll ks + 1
def TK.drawsAll : List TK → Nat
  | [] => 0
  | k :: r => TK.draws k + TK.drawsAll r
end
mutual
def TK.deep : TK → Nat
  | .tup ks => TK.deepAll ks + 1
  | _ => 0
def TK.deepAll : List TK → Nat
  | [] => 0
  | k :: r => max (TK.deep k) (TK.deepAll r)
end

/-! ### data, store, outcome -/
inductive D where
  | non | bl (b : Bool) | int (i : Int) | str (x : Str) | tup (ds : List D) | loc (n : Nat) | gl (x : Str) | ty (n : String) | fz (ds : List D)
inductive SO where
  | lst (ds : List D) | dk (kvs : List (Key × D)) | dd (kvs : List (TK × D)) | ins (cls : Str) (fs : List (Str × D))
abbrev Sto := List SO
structure Ex where
  cls : Str
  fs : List (Str × D)
inductive Out (α : Type) where
  | ok (a : α) (S : Sto) | exc (x : Ex) (S : Sto) | stk
def Out.bind {α β : Type} : Out α → (α → Sto → Out β) → Out β
  | .ok a S, k => k a S
  | .exc x S, _ => .exc x S
  | .stk, _ => .stk
@[simp] theorem bind_ok {α β : Type} {a : α} {S : Sto} {k : α → Sto → Out β} : (Out.ok a S).bind k = k a S := by exact rfl
@[simp] theorem bind_exc {α β : Type} {x : Ex} {S : Sto} {k : α → Sto → Out β} : (Out.exc x S : Out α).bind k = .exc x S := by exact rfl
@[simp] theorem bind_stk {α β : Type} {k : α → Sto → Out β} : (Out.stk : Out α).bind k = .stk := by exact rfl
abbrev Env := List (Option D)
abbrev FE := Env → Sto → Out D
abbrev FT := Env → Sto → Out Bool
abbrev FA := Env → Sto → Out (List D)
inductive Fl where
  | nx (e : Env) | rt (d : D) | bk (e : Env) | ct (e : Env)
abbrev FS := Env → Sto → Out Fl

/-! ### worlds -/
structure MW where
  mg : Str → Option Value
  w : World
abbrev _root_.L2.Cx.mw (X : Cx) : MW := ⟨X.mg, X.w⟩
mutual
def keyD : TK → D
  | .int i => .int i
  | .str x => .str x
  | .tup ks => .tup (keyDs ks)
def keyDs : List TK → List D
  | [] => []
  | k :: r => keyD k :: keyDs r
end
/-- a dict, as it lies -/
def DictO (a : Addr) (es : List DictEntry) : HO := .ext fun h => ∃ (o : Obj) (ea : Array DictEntry) (ep : Nat), h.get? a = some o ∧ o.ExactDict ∧ o.data = .dict ea ep ∧ ea.toList = es
def entT (w : World) (x : TK × Addr × Value) : DictEntry := ⟨TK.hash w x.1, .ref x.2.1, x.2.2⟩
structure Wd where
  rho : List Addr
  H : Hp
/-- a list that is never written: a known one, or one of the module's -/
def SqF (K : PySem.W.Frag) (H : Hp) (a : Addr) (xs : List V) : Prop := (∃ ob, H a = some (.frz ob (.lst xs))) ∨ SqL K (fun _ => none) a xs
theorem SqF.sq {K : PySem.W.Frag} {H : Hp} {a : Addr} {xs : List V} : SqF K H a xs → SqL K H a xs
  | .inl h => .inl (.inr h)
  | .inr (.inr h) => .inr h
  | .inr (.inl (.inl h)) => nomatch h
  | .inr (.inl (.inr ⟨_, h⟩)) => nomatch h
section
variable (K : PySem.W.Frag) (mw : MW)
mutual
inductive RD (o : Wd) : D → V → Prop
  | non : RD o .non .non
  | bl (b : Bool) : RD o (.bl b) (.bl b)
  | int (i : Int) : RD o (.int i) (.int i)
  | str (x : Str) : RD o (.str x) (.str x)
  | tup {a : Addr} {ds : List D} {vs : List V} : SqT K o.H a vs → RDs o ds vs → RD o (.tup ds) (.ref a)
  | loc {n : Nat} {a : Addr} : o.rho[n]? = some a → RD o (.loc n) (.ref a)
  | gl {x : Str} {a : Addr} : mw.mg x = some (.ref a) → RD o (.gl x) (.ref a)
  | ty (n : String) : RD o (.ty n) (.ty n)
  | fz {a : Addr} {ds : List D} {vs : List V} : SqF K o.H a vs → RDs o ds vs → RD o (.fz ds) (.ref a)
inductive RDs (o : Wd) : List D → List V → Prop
  | nil : RDs o [] []
  | cons {d : D} {ds : List D} {v : V} {vs : List V} : RD o d v → RDs o ds vs → RDs o (d :: ds) (v :: vs)
end
/-- the world grows: places stay, tuples stay, lists that are never written stay -/
structure LeV (o o' : Wd) : Prop where
  rho : ∀ (n : Nat) (a : Addr), o.rho[n]? = some a → o'.rho[n]? = some a
  tup : ∀ (a : Addr) (xs : List V), SqT K o.H a xs → SqT K o'.H a xs
  frz : ∀ (a : Addr) (ob : Obj) (xs : List V), o.H a = some (.frz ob (.lst xs)) → o'.H a = some (.frz ob (.lst xs))
/-- .. and what is no place of the store stays as it is -/
structure Le (o o' : Wd) : Prop extends LeV K o o' where
  rest : ∀ (a : Addr) (u : HO), a ∉ o.rho → o.H a = some u → o'.H a = some u ∧ a ∉ o'.rho
def RKs {κ : Type} (o : Wd) : List (κ × D) → List (κ × V) → Prop := Paired fun (p : κ × D) (q : κ × V) => p.1 = q.1 ∧ RD K mw o p.2 q.2
def RSO (o : Wd) (a : Addr) : SO → Prop
  | .lst ds => ∃ vs, o.H a = some (.lst vs) ∧ RDs K mw o ds vs
  | .dk kvs => ∃ ks, o.H a = some (.dK ks) ∧ RKs K mw o kvs ks
  | .dd kvs => ∃ xs : List (TK × Addr × Value), o.H a = some (DictO a (xs.map (entT mw.w))) ∧ kvs.length ≤ sizeLine ∧ (a == sysModules) = false ∧ (xs.map (·.1)).Nodup ∧
      Paired (fun (p : TK × D) (q : TK × Addr × Value) => p.1 = q.1 ∧ q.1.deep ≤ 8 ∧ RD K mw o (keyD q.1) (.ref q.2.1) ∧ ∃ v, RelV v q.2.2 ∧ RD K mw o p.2 v) kvs xs
  | .ins c fs => ∃ (C dx : Addr) (vs : List (Str × V)), mw.mg c = some (.ref C) ∧ o.H a = some (.ins C dx vs) ∧ RKs K mw o fs vs
structure RS (o : Wd) (S : Sto) : Prop where
  len : o.rho.length = S.length
  nd : o.rho.Nodup
  obj : ∀ (n : Nat) (x : SO), S[n]? = some x → ∃ a, o.rho[n]? = some a ∧ RSO K mw o a x
structure RE (o : Wd) (env : Env) (σ : St) : Prop where
  len : env.length = σ.length
  val : ∀ (i : Nat) (d : D), env[i]? = some (some d) → ∃ v, σ[i]? = some (some v) ∧ RD K mw o d v
end

section
variable {K : PySem.W.Frag} {mw : MW} {o o' o1 o2 : Wd}
theorem Le.refl : Le K o o := ⟨⟨fun _ _ h => h, fun _ _ h => h, fun _ _ _ h => h⟩, fun _ _ h e => ⟨e, h⟩⟩
theorem LeV.trans (a : LeV K o o1) (b : LeV K o1 o2) : LeV K o o2 := ⟨fun n x h => b.rho n x (a.rho n x h), fun x xs h => b.tup x xs (a.tup x xs h), fun x ob xs h => b.frz x ob xs (a.frz x ob xs h)⟩
theorem Le.trans (a : Le K o o1) (b : Le K o1 o2) : Le K o o2 := ⟨a.toLeV.trans b.toLeV, fun x u h e => let ⟨e1, h1⟩ := a.rest x u h e; b.rest x u h1 e1⟩
theorem LeV.fz (l : LeV K o o') {a : Addr} {xs : List V} (h : SqF K o.H a xs) : SqF K o'.H a xs := by
  rcases h with ⟨ob, h⟩ | h
  · exact .inl ⟨ob, l.frz a ob xs h⟩
  · exact .inr h
mutual
theorem RD.upV (l : LeV K o o') : ∀ {d : D} {v : V}, RD K mw o d v → RD K mw o' d v
  | _, _, .non => .non
  | _, _, .bl b => .bl b
  | _, _, .int i => .int i
  | _, _, .str x => .str x
  | _, _, .tup h r => .tup (l.tup _ _ h) (RDs.upV l r)
  | _, _, .loc h => .loc (l.rho _ _ h)
  | _, _, .gl h => .gl h
  | _, _, .ty n => .ty n
  | _, _, .fz h r => .fz (l.fz h) (RDs.upV l r)
theorem RDs.upV (l : LeV K o o') : ∀ {ds : List D} {vs : List V}, RDs K mw o ds vs → RDs K mw o' ds vs
  | _, _, .nil => .nil
  | _, _, .cons h r => .cons (RD.upV l h) (RDs.upV l r)
end
theorem RD.up (l : Le K o o') {d : D} {v : V} (h : RD K mw o d v) : RD K mw o' d v := h.upV l.toLeV
theorem RDs.up (l : Le K o o') {ds : List D} {vs : List V} (h : RDs K mw o ds vs) : RDs K mw o' ds vs := h.upV l.toLeV
theorem RDs.length : ∀ {ds : List D} {vs : List V}, RDs K mw o ds vs → ds.length = vs.length
  | _, _, .nil => rfl
  | _, _, .cons _ r => by rw [List.length_cons, List.length_cons, RDs.length r]
theorem RDs.get {ds : List D} {vs : List V} {i : Nat} {d : D} (h : RDs K mw o ds vs) (e : ds[i]? = some d) : ∃ v, vs[i]? = some v ∧ RD K mw o d v := by
  induction i generalizing ds vs with
  | zero =>
    cases h with
    | nil => cases e
    | cons r t => cases e; exact ⟨_, rfl, r⟩
  | succ n ih =>
    cases h with
    | nil => cases e
    | cons r t => exact ih t e
theorem RDs.get' {ds : List D} {vs : List V} {i : Nat} {v : V} (h : RDs K mw o ds vs) (e : vs[i]? = some v) : ∃ d, ds[i]? = some d ∧ RD K mw o d v := by
  induction i generalizing ds vs with
  | zero =>
    cases h with
    | nil => cases e
    | cons r t => cases e; exact ⟨_, rfl, r⟩
  | succ n ih =>
    cases h with
    | nil => cases e
    | cons r t => exact ih t e
theorem RDs.append : ∀ {ds es : List D} {vs ws : List V}, RDs K mw o ds vs → RDs K mw o es ws → RDs K mw o (ds ++ es) (vs ++ ws)
  | _, _, _, _, .nil, s => s
  | _, _, _, _, .cons r t, s => .cons r (RDs.append t s)
theorem RDs.take : ∀ {ds : List D} {vs : List V} (n : Nat), RDs K mw o ds vs → RDs K mw o (ds.take n) (vs.take n)
  | _, _, 0, _ => .nil
  | _, _, _ + 1, .nil => .nil
  | _, _, n + 1, .cons r t => .cons r (RDs.take n t)
theorem RDs.drop : ∀ {ds : List D} {vs : List V} (n : Nat), RDs K mw o ds vs → RDs K mw o (ds.drop n) (vs.drop n)
  | _, _, 0, r => r
  | _, _, _ + 1, .nil => .nil
  | _, _, n + 1, .cons _ t => RDs.drop n t
theorem RDs.set {d : D} {v : V} (r : RD K mw o d v) : ∀ {ds : List D} {vs : List V} (i : Nat), RDs K mw o ds vs → RDs K mw o (ds.set i d) (vs.set i v)
  | _, _, _, .nil => .nil
  | _, _, i + 1, .cons q t => .cons q (RDs.set r i t)
  | _, _, 0, .cons _ t => .cons r t
theorem RDs.eraseIdx : ∀ {ds : List D} {vs : List V} (i : Nat), RDs K mw o ds vs → RDs K mw o (ds.eraseIdx i) (vs.eraseIdx i)
  | _, _, _, .nil => by simp; exact .nil
  | _, _, 0, .cons _ t => t
  | _, _, i + 1, .cons q t => .cons q (RDs.eraseIdx i t)
theorem RDs.reverse {ds : List D} {vs : List V} (h : RDs K mw o ds vs) : RDs K mw o ds.reverse vs.reverse := by
  induction ds generalizing vs with
  | nil => cases h; exact .nil
  | cons d ds ih =>
    cases h with
    | cons r t => simpa using (ih t).append (.cons r .nil)
theorem RDs.rep {ds : List D} {vs : List V} (h : RDs K mw o ds vs) : ∀ k : Nat, RDs K mw o (List.replicate k ds).flatten (List.replicate k vs).flatten
  | 0 => .nil
  | k + 1 => by rw [List.replicate_succ, List.replicate_succ, List.flatten_cons, List.flatten_cons]; exact h.append (RDs.rep h k)
theorem RKs.upV {κ : Type} (l : LeV K o o') : ∀ {ds : List (κ × D)} {vs : List (κ × V)}, RKs K mw o ds vs → RKs K mw o' ds vs
  | _, _, .nil => .nil
  | _, _, .cons h r => .cons ⟨h.1, h.2.upV l⟩ (RKs.upV l r)
theorem RE.upV (l : LeV K o o') {env : Env} {σ : St} (r : RE K mw o env σ) : RE K mw o' env σ := ⟨r.len, fun i d h => let ⟨v, a, b⟩ := r.val i d h; ⟨v, a, b.upV l⟩⟩
theorem RE.up (l : Le K o o') {env : Env} {σ : St} (r : RE K mw o env σ) : RE K mw o' env σ := r.upV l.toLeV
theorem RE.set {env : Env} {σ : St} {d : D} {v : V} (r : RE K mw o env σ) (i : Nat) (h : RD K mw o d v) : RE K mw o (env.set i (some d)) (σ.set i (some v)) := by
  refine ⟨by simp [r.len], fun j e hj => ?_⟩
  by_cases hij : i = j
  · subst hij
    by_cases hl : i < env.length
    · rw [List.getElem?_set_self hl] at hj
      cases hj
      exact ⟨v, List.getElem?_set_self (by rw [← r.len]; exact hl), h⟩
    · rw [List.getElem?_eq_none (by simpa using hl)] at hj
      cases hj
  · rw [List.getElem?_set_ne hij] at hj ⊢
    exact r.val j e hj
/-- a store's object, its place is tracked -/
theorem RSO.some {a : Addr} {x : SO} (h : RSO K mw o a x) : ∃ u, o.H a = some u := by
  cases x with
  | lst ds => obtain ⟨vs, e, _⟩ := h; exact ⟨_, e⟩
  | dk kvs => obtain ⟨ks, e, _⟩ := h; exact ⟨_, e⟩
  | dd kvs => obtain ⟨ks, e, _⟩ := h; exact ⟨_, e⟩
  | ins c fs => obtain ⟨C, dx, vs, _, e, _⟩ := h; exact ⟨_, e⟩
theorem RSO.upV {a : Addr} {x : SO} (l : LeV K o o') (e : o'.H a = o.H a) (h : RSO K mw o a x) : RSO K mw o' a x := by
  cases x with
  | lst ds => obtain ⟨vs, q, r⟩ := h; exact ⟨vs, e.trans q, r.upV l⟩
  | dk kvs => obtain ⟨vs, q, r⟩ := h; exact ⟨vs, e.trans q, r.upV l⟩
  | dd kvs => obtain ⟨xs, q, h1, h2, h3, r⟩ := h; exact ⟨xs, e.trans q, h1, h2, h3, Paired.mapP r fun p q ⟨a, b, c, v, d, f⟩ => ⟨a, b, c.upV l, v, d, f.upV l⟩⟩
  | ins c fs => obtain ⟨C, dx, vs, q0, q, r⟩ := h; exact ⟨C, dx, vs, q0, e.trans q, r.upV l⟩
theorem RSO.up {a : Addr} {x : SO} (l : Le K o o') (e : o'.H a = o.H a) (h : RSO K mw o a x) : RSO K mw o' a x := h.upV l.toLeV e
theorem RS.fresh {S : Sto} {p : Addr} (r : RS K mw o S) (h : o.H p = none) : p ∉ o.rho := fun hm => by
  obtain ⟨n, hn, e⟩ := List.getElem_of_mem hm
  have hn' : n < S.length := by rw [← r.len]; exact hn
  obtain ⟨a, ea, q⟩ := r.obj n S[n] (List.getElem?_eq_getElem hn')
  rw [List.getElem?_eq_getElem hn, e] at ea
  cases ea
  obtain ⟨u, hu⟩ := q.some
  rw [h] at hu
  cases hu
theorem sqT_upd {H : Hp} {p a : Addr} {u : HO} {xs : List V} (h : ¬ ∃ ys, H p = some (.tup ys)) (h2 : ¬ ∃ ob ys, H p = some (.frz ob (.tup ys))) (q : SqT K H a xs) : SqT K (upd H p u) a xs := by
  rcases q with q | q
  · by_cases e : a = p
    · subst e
      rcases q with q | ⟨ob, q⟩
      · exact absurd ⟨_, q⟩ h
      · exact absurd ⟨_, _, q⟩ h2
    · rcases q with q | ⟨ob, q⟩
      · exact .inl (.inl (by rw [upd_ne e]; exact q))
      · exact .inl (.inr ⟨ob, by rw [upd_ne e]; exact q⟩)
  · exact .inr q
/-- a new object that is no place of the store (a tuple) -/
theorem Le.new {p : Addr} {u : HO} (h : o.H p = none) : Le K o ⟨o.rho, upd o.H p u⟩ :=
  ⟨⟨fun _ _ e => e, fun a xs q => sqT_upd (fun ⟨_, e⟩ => by rw [h] at e; cases e) (fun ⟨_, _, e⟩ => by rw [h] at e; cases e) q, fun a ob xs e => (upd_ne (ne_of_none e h)).trans e⟩, fun a u hm e => ⟨(upd_ne (ne_of_none e h)).trans e, hm⟩⟩
theorem RS.new {S : Sto} {p : Addr} {u : HO} (r : RS K mw o S) (h : o.H p = none) : RS K mw ⟨o.rho, upd o.H p u⟩ S := by
  refine ⟨r.len, r.nd, fun n x e => ?_⟩
  obtain ⟨a, ea, q⟩ := r.obj n x e
  obtain ⟨w, hw⟩ := q.some
  exact ⟨a, ea, q.up (Le.new h) (upd_ne (ne_of_none hw h))⟩
/-- a new place -/
theorem Le.alloc {p : Addr} {u : HO} (h : o.H p = none) : Le K o ⟨o.rho ++ [p], upd o.H p u⟩ :=
  ⟨⟨fun n a e => by
    have hn := (List.getElem?_eq_some_iff.mp e).1
    show (o.rho ++ [p])[n]? = some a
    rw [List.getElem?_append_left hn]; exact e, (Le.new (u := u) h).tup, (Le.new (K := K) (u := u) h).frz⟩, fun a w hm e => ⟨(upd_ne (ne_of_none e h)).trans e, fun z => by
      rcases List.mem_append.mp z with z | z
      · exact hm z
      · exact ne_of_none e h (by simpa using z)⟩⟩
theorem RS.alloc {S : Sto} {p : Addr} {u : HO} {x : SO} (r : RS K mw o S) (h : o.H p = none) (q : RSO K mw ⟨o.rho ++ [p], upd o.H p u⟩ p x) : RS K mw ⟨o.rho ++ [p], upd o.H p u⟩ (S ++ [x]) := by
  refine ⟨by simp [r.len], ?_, fun n y e => ?_⟩
  · refine List.nodup_append.mpr ⟨r.nd, by simp, fun a ha b hb => ?_⟩
    have e : b = p := by simpa using hb
    subst e
    intro e2
    subst e2
    exact r.fresh h ha
  · by_cases hn : n < S.length
    · rw [List.getElem?_append_left hn] at e
      obtain ⟨a, ea, q2⟩ := r.obj n y e
      obtain ⟨w, hw⟩ := q2.some
      exact ⟨a, (Le.alloc (K := K) (u := u) h).rho n a ea, q2.up (Le.alloc h) (upd_ne (ne_of_none hw h))⟩
    · have hl : n < (S ++ [x]).length := (List.getElem?_eq_some_iff.mp e).1
      have en : n = S.length := by simp at hl; omega
      subst en
      simp at e
      subst e
      exact ⟨p, by show (o.rho ++ [p])[S.length]? = some p; rw [← r.len]; simp, q⟩
theorem alloc_loc {p : Addr} {u : HO} {S : Sto} (r : RS K mw o S) : RD K mw ⟨o.rho ++ [p], upd o.H p u⟩ (.loc S.length) (.ref p) :=
  .loc (by show (o.rho ++ [p])[S.length]? = some p; rw [← r.len]; simp)
/-- a place written -/
theorem LeV.write {a : Addr} {u w : HO} (h : o.H a = some w) (hw : ∀ ys, w ≠ .tup ys) (hw2 : ∀ ob y, w ≠ .frz ob y) : LeV K o ⟨o.rho, upd o.H a u⟩ :=
  ⟨fun _ _ e => e, fun b xs q => sqT_upd (fun ⟨_, e⟩ => by rw [h] at e; cases e; exact hw _ rfl) (fun ⟨_, _, e⟩ => by rw [h] at e; cases e; exact hw2 _ _ rfl) q,
    fun b ob xs e => (upd_ne (fun z => by subst z; rw [h] at e; cases e; exact hw2 _ _ rfl)).trans e⟩
theorem Le.write {n : Nat} {a : Addr} {u w : HO} (hn : o.rho[n]? = some a) (h : o.H a = some w) (hw : ∀ ys, w ≠ .tup ys) (hw2 : ∀ ob y, w ≠ .frz ob y) : Le K o ⟨o.rho, upd o.H a u⟩ :=
  ⟨LeV.write h hw hw2, fun b v hm e => ⟨(upd_ne (fun z => hm (by rw [z]; exact List.mem_of_getElem? hn))).trans e, hm⟩⟩
theorem RS.write {S : Sto} {n : Nat} {a : Addr} {u w : HO} {x : SO} (r : RS K mw o S) (hn : o.rho[n]? = some a) (h : o.H a = some w) (hw : ∀ ys, w ≠ .tup ys) (hw2 : ∀ ob y, w ≠ .frz ob y)
    (q : RSO K mw ⟨o.rho, upd o.H a u⟩ a x) : RS K mw ⟨o.rho, upd o.H a u⟩ (S.set n x) := by
  refine ⟨by simp [r.len], r.nd, fun m y e => ?_⟩
  by_cases hm : n = m
  · subst hm
    have hl : n < S.length := by
      have := (List.getElem?_eq_some_iff.mp e).1
      simpa using this
    rw [List.getElem?_set_self hl] at e
    cases e
    exact ⟨a, hn, q⟩
  · rw [List.getElem?_set_ne hm] at e
    obtain ⟨b, eb, q2⟩ := r.obj m y e
    have hba : b ≠ a := fun z => by
      subst z
      obtain ⟨h1, e1⟩ := List.getElem?_eq_some_iff.mp hn
      obtain ⟨h2, e2⟩ := List.getElem?_eq_some_iff.mp eb
      exact hm ((List.getElem_inj r.nd).mp (e1.trans e2.symm))
    exact ⟨b, eb, q2.upV (LeV.write h hw hw2) (upd_ne hba)⟩
/-- an object that is no place of the store changes -/
theorem RS.other {S : Sto} {a : Addr} {u w : HO} (r : RS K mw o S) (hn : a ∉ o.rho) (h : o.H a = some w) (hw : ∀ ys, w ≠ .tup ys) (hw2 : ∀ ob y, w ≠ .frz ob y) : RS K mw ⟨o.rho, upd o.H a u⟩ S := by
  refine ⟨r.len, r.nd, fun n x e => ?_⟩
  obtain ⟨b, eb, q⟩ := r.obj n x e
  exact ⟨b, eb, q.upV (LeV.write h hw hw2) (upd_ne fun z => hn (by rw [← z]; exact List.mem_of_getElem? eb))⟩
theorem Le.other {a : Addr} {u w : HO} (l : Le K o o') (h0 : o.H a = none) (h : o'.H a = some w) (hw : ∀ ys, w ≠ .tup ys) (hw2 : ∀ ob y, w ≠ .frz ob y) : Le K o ⟨o'.rho, upd o'.H a u⟩ :=
  ⟨l.toLeV.trans (LeV.write h hw hw2), fun b v hm e => let ⟨e1, h1⟩ := l.rest b v hm e; ⟨(upd_ne (ne_of_none e h0)).trans e1, h1⟩⟩
end

/-! ### what is wanted behind an outcome -/
/-- an exception lies so: its class, its dict -/
def RX (K : PySem.W.Frag) (mw : MW) (o : Wd) (x : Ex) (c : Value) (od : Option Addr) : Prop :=
  ∃ C d fs, c = .ref C ∧ mw.mg x.cls = some (.ref C) ∧ od = some d ∧ o.H d = some (.xd fs) ∧ RKs K mw o x.fs fs
section
variable (K : PySem.W.Frag) (mw : MW)
def Post {α : Type} (Wx : Ex → Wd → Prop) (R : α → Sto → Wd → Prop) (o : Wd) : Out α → Prop
  | .ok a S => ∀ o', Le K o o' → RS K mw o' S → R a S o'
  | .exc x S => ∀ o', Le K o o' → RS K mw o' S → Wx x o'
  | .stk => False
/-- the wish about exceptions, of the layer's form -/
def wx (W : WX) (σ : St) : Ex → Wd → Prop := fun x o => ∀ c od, RX K mw o x c od → W c od σ o.H
def PostV (W : WX) (σ : St) (Q : VK) (o : Wd) (r : Out D) : Prop := Post K mw (wx K mw W σ) (fun d _ o' => ∀ v, RD K mw o' d v → Q v o'.H) o r
def PostB (W : WX) (σ : St) (Q : Bool → Hp → Prop) (o : Wd) (r : Out Bool) : Prop := Post K mw (wx K mw W σ) (fun b _ o' => Q b o'.H) o r
def PostA (W : WX) (σ : St) (Q : List V → Hp → Prop) (o : Wd) (r : Out (List D)) : Prop := Post K mw (wx K mw W σ) (fun ds _ o' => ∀ vs, RDs K mw o' ds vs → Q vs o'.H) o r
/-- a state and what stands for it -/
def At (env : Env) (S : Sto) (o : Wd) (σ : St) (H : Hp) : Prop := o.H = H ∧ RE K mw o env σ ∧ RS K mw o S
def tE (W : WX) (f : FE) : TE := fun σ H Q => ∃ env S o, At K mw env S o σ H ∧ PostV K mw W σ Q o (f env S)
def tT (W : WX) (f : FT) : TT := fun σ H Q => ∃ env S o, At K mw env S o σ H ∧ PostB K mw W σ Q o (f env S)
def tA (W : WX) (f : FA) : TA := fun σ H Q => ∃ env S o, At K mw env S o σ H ∧ PostA K mw W σ Q o (f env S)
end
section
variable {K : PySem.W.Frag} {mw : MW}
theorem Post.bind {α β : Type} {Wx : Ex → Wd → Prop} {R : β → Sto → Wd → Prop} {o : Wd} {r : Out α} {k : α → Sto → Out β} (h : Post K mw Wx R o (r.bind k)) :
    Post K mw Wx (fun a S o' => Post K mw Wx R o' (k a S)) o r := by
  cases r with
  | ok a S =>
    intro o' l rs
    have h : Post K mw Wx R o (k a S) := h
    show Post K mw Wx R o' (k a S)
    revert h
    cases k a S with
    | ok b S2 => exact fun h o2 l2 r2 => h o2 (l.trans l2) r2
    | exc x S2 => exact fun h o2 l2 r2 => h o2 (l.trans l2) r2
    | stk => exact fun h => h
  | exc x S => exact h
  | stk => exact h
theorem Post.imp {α : Type} {Wx : Ex → Wd → Prop} {R R' : α → Sto → Wd → Prop} {o : Wd} {r : Out α} (h : Post K mw Wx R o r) (f : ∀ a S o', Le K o o' → RS K mw o' S → R a S o' → R' a S o') : Post K mw Wx R' o r := by
  cases r with
  | ok a S => exact fun o' l rs => f a S o' l rs (h o' l rs)
  | exc x S => exact h
  | stk => exact h
theorem Post.here {α : Type} {Wx : Ex → Wd → Prop} {R : α → Sto → Wd → Prop} {o : Wd} {a : α} {S : Sto} (h : Post K mw Wx R o (.ok a S)) (r : RS K mw o S) : R a S o := h o .refl r
theorem PE.imp {X : Cx} {e : Expr} {t t' : TE} (h : PE X e t) (f : ∀ σ H Q, t' σ H Q → t σ H Q) : PE X e t' := ⟨fun pins s σ H Q I q => h.run pins s σ H Q I (f σ H Q q)⟩
theorem PT.imp {X : Cx} {e : Expr} {t t' : TT} (h : PT X e t) (f : ∀ σ H Q, t' σ H Q → t σ H Q) : PT X e t' := ⟨fun pins s σ H Q I q => h.run pins s σ H Q I (f σ H Q q)⟩
theorem PA.imp {X : Cx} {e : List Expr} {t t' : TA} (h : PA X e t) (f : ∀ σ H Q, t' σ H Q → t σ H Q) : PA X e t' := ⟨fun pos pins s σ H Q I q => h.run pos pins s σ H Q I (f σ H Q q)⟩
end
end PV

set_option Elab.async false
set_option linter.all false
set_option maxRecDepth 100000
set_option maxHeartbeats 3999000
namespace PV
open L2 PyProof.Rows PySem PySem.Spec

/-! ### primitives: what they give -/
abbrev PR := Option (D × Sto)
def lift : PR → Out D
  | some (d, S) => .ok d S
  | none => .stk
@[simp] theorem lift_some {d : D} {S : Sto} : lift (some (d, S)) = .ok d S := by exact rfl
@[simp] theorem lift_none : lift none = .stk := by exact rfl
def lstAt (S : Sto) (n : Nat) : Option (List D) :=
  match S[n]? with
  | some (.lst ds) => some ds
  | _ => none
/-- a list -/
def lisOf (S : Sto) : D → Option (List D)
  | .loc n => lstAt S n
  | .fz ds => some ds
  | _ => none
/-- a list or a tuple -/
def seqOf (S : Sto) : D → Option (List D)
  | .tup ds => some ds
  | .loc n => lstAt S n
  | .fz ds => some ds
  | _ => none
def newL (ds : List D) (S : Sto) : PR := if ds.length ≤ sizeLine then some (.loc S.length, S ++ [.lst ds]) else none

section
variable {K : PySem.W.Frag} {mw : MW}
theorem lift_post {Wx : Ex → Wd → Prop} {R : D → Sto → Wd → Prop} {o : Wd} {r : PR} (h : Post K mw Wx R o (lift r)) : ∃ d S', r = some (d, S') ∧ ∀ o', Le K o o' → RS K mw o' S' → R d S' o' := by
  cases r with
  | none => exact False.elim h
  | some p => exact ⟨p.1, p.2, rfl, h⟩
theorem RS.lst {o : Wd} {S : Sto} {n : Nat} {a : Addr} {ds : List D} (r : RS K mw o S) (hn : o.rho[n]? = some a) (h : lstAt S n = some ds) : ∃ vs, o.H a = some (.lst vs) ∧ RDs K mw o ds vs := by
  unfold lstAt at h
  cases e : S[n]? with
  | none => rw [e] at h; cases h
  | some x =>
    rw [e] at h
    obtain ⟨b, eb, q⟩ := r.obj n x e
    rw [hn] at eb
    cases eb
    cases x with
    | lst es => cases h; obtain ⟨vs, q1, q2⟩ := q; exact ⟨vs, q1, q2⟩
    | _ => cases h
theorem RD.seq {o : Wd} {S : Sto} {d : D} {v : V} {ds : List D} (r : RS K mw o S) (h : RD K mw o d v) (hs : seqOf S d = some ds) : ∃ a vs, v = .ref a ∧ RDs K mw o ds vs ∧ (SqL K o.H a vs ∨ SqT K o.H a vs) := by
  cases h with
  | tup q p => cases hs; exact ⟨_, _, rfl, p, .inr q⟩
  | loc e =>
    obtain ⟨vs, q, p⟩ := r.lst e hs
    exact ⟨_, vs, rfl, p, .inl (SqL.of q)⟩
  | fz q p => cases hs; exact ⟨_, _, rfl, p, .inl q.sq⟩
  | _ => cases hs
theorem RD.lis {o : Wd} {S : Sto} {d : D} {v : V} {ds : List D} (r : RS K mw o S) (h : RD K mw o d v) (hs : lisOf S d = some ds) : ∃ a vs, v = .ref a ∧ RDs K mw o ds vs ∧ SqL K o.H a vs := by
  cases h with
  | loc e =>
    obtain ⟨vs, q, p⟩ := r.lst e hs
    exact ⟨_, vs, rfl, p, SqL.of q⟩
  | fz q p => cases hs; exact ⟨_, _, rfl, p, q.sq⟩
  | _ => cases hs
theorem RS.wr {o : Wd} {S : Sto} {n : Nat} {ds : List D} (r : RS K mw o S) (h : S[n]? = some (.lst ds)) : ∃ a vs, o.rho[n]? = some a ∧ o.H a = some (.lst vs) ∧ RDs K mw o ds vs := by
  obtain ⟨a, ea, vs, q1, q2⟩ := r.obj n _ h
  exact ⟨a, vs, ea, q1, q2⟩
theorem RS.putL {o : Wd} {S : Sto} {n : Nat} {a : Addr} {vs ws : List V} {es : List D} (r : RS K mw o S) (hn : o.rho[n]? = some a) (h : o.H a = some (.lst vs)) (q : RDs K mw o es ws) :
    Le K o ⟨o.rho, upd o.H a (.lst ws)⟩ ∧ RS K mw ⟨o.rho, upd o.H a (.lst ws)⟩ (S.set n (.lst es)) := by
  have l : Le K o ⟨o.rho, upd o.H a (.lst ws)⟩ := Le.write hn h (fun _ z => nomatch z) (fun _ _ z => nomatch z)
  exact ⟨l, r.write hn h (fun _ z => nomatch z) (fun _ _ z => nomatch z) ⟨ws, upd_same, q.up l⟩⟩
theorem RS.newLst {o : Wd} {S : Sto} {p : Addr} {vs : List V} {ds : List D} (r : RS K mw o S) (h : o.H p = none) (q : RDs K mw o ds vs) :
    Le K o ⟨o.rho ++ [p], upd o.H p (.lst vs)⟩ ∧ RS K mw ⟨o.rho ++ [p], upd o.H p (.lst vs)⟩ (S ++ [.lst ds]) ∧ RD K mw ⟨o.rho ++ [p], upd o.H p (.lst vs)⟩ (.loc S.length) (.ref p) := by
  have l : Le K o ⟨o.rho ++ [p], upd o.H p (.lst vs)⟩ := Le.alloc h
  exact ⟨l, r.alloc h ⟨vs, upd_same, q.up l⟩, alloc_loc r⟩
theorem RS.newTup {o : Wd} {S : Sto} {p : Addr} {vs : List V} {ds : List D} (r : RS K mw o S) (h : o.H p = none) (q : RDs K mw o ds vs) :
    Le K o ⟨o.rho, upd o.H p (.tup vs)⟩ ∧ RS K mw ⟨o.rho, upd o.H p (.tup vs)⟩ S ∧ RD K mw ⟨o.rho, upd o.H p (.tup vs)⟩ (.tup ds) (.ref p) := by
  have l : Le K o ⟨o.rho, upd o.H p (.tup vs)⟩ := Le.new h
  exact ⟨l, r.new h, .tup (SqT.of upd_same) (q.up l)⟩
end

/-! ### judgements over values -/
def rDD (K : PySem.W.Frag) (mw : MW) (g : D → D → Sto → PR) : R2 := fun x y H Q =>
  ∃ o d1 d2 S d S', o.H = H ∧ RD K mw o d1 x ∧ RD K mw o d2 y ∧ RS K mw o S ∧ g d1 d2 S = some (d, S') ∧ ∀ o' v, Le K o o' → RS K mw o' S' → RD K mw o' d v → Q v o'.H
def OpD (X : Cx) (f : Value → Value → Sem Value) (g : D → D → Sto → PR) : Prop := OpR X f (rDD X.K X.mw g)
def rD1 (K : PySem.W.Frag) (mw : MW) (g : D → Sto → PR) : V → Hp → VK → Prop := fun x H Q =>
  ∃ o d1 S d S', o.H = H ∧ RD K mw o d1 x ∧ RS K mw o S ∧ g d1 S = some (d, S') ∧ ∀ o' v, Le K o o' → RS K mw o' S' → RD K mw o' d v → Q v o'.H
def UnD (X : Cx) (f : Value → Sem Value) (g : D → Sto → PR) : Prop := UnR X f (rD1 X.K X.mw g)
def rDL (K : PySem.W.Frag) (mw : MW) (g : List D → Sto → PR) : List V → Hp → VK → Prop := fun xs H Q =>
  ∃ o ds S d S', o.H = H ∧ RDs K mw o ds xs ∧ RS K mw o S ∧ g ds S = some (d, S') ∧ ∀ o' v, Le K o o' → RS K mw o' S' → RD K mw o' d v → Q v o'.H
def CallD (X : Cx) (f : Value) (g : List D → Sto → PR) : Prop := CallR X f (rDL X.K X.mw g)

/-! ### expressions: combinators -/
def eVar (i : Nat) : FE := fun env S => match env[i]? with
  | some (some d) => .ok d S
  | _ => .stk
def eC (d : D) : FE := fun _ S => .ok d S
def eBin (g : D → D → Sto → PR) (fa fb : FE) : FE := fun env S => (fa env S).bind fun d1 S1 => (fb env S1).bind fun d2 S2 => lift (g d1 d2 S2)
def eUn (g : D → Sto → PR) (fa : FE) : FE := fun env S => (fa env S).bind fun d1 S1 => lift (g d1 S1)
def aNil : FA := fun _ S => .ok [] S
def aCons (fe : FE) (fr : FA) : FA := fun env S => (fe env S).bind fun d S1 => (fr env S1).bind fun ds S2 => .ok (d :: ds) S2
def eTup (fa : FA) : FE := fun env S => (fa env S).bind fun ds S1 => .ok (.tup ds) S1
def eLst (fa : FA) : FE := fun env S => (fa env S).bind fun ds S1 => .ok (.loc S1.length) (S1 ++ [.lst ds])
def eCB (g : List D → Sto → PR) (fa : FA) : FE := fun env S => (fa env S).bind fun ds S1 => lift (g ds S1)
def eIfx (t : FT) (fa fb : FE) : FE := fun env S => (t env S).bind fun b S1 => if b = true then fa env S1 else fb env S1
/-- truth -/
def truD (d : D) (S : Sto) : Option Bool := match d with
  | .non => some false
  | .bl b => some b
  | .int i => some (i != 0)
  | .str x => if x.length ≤ sizeLine then some (x.length != 0) else none
  | .tup ds => some (!ds.isEmpty)
  | .loc n => (match S[n]? with
    | some (.lst ds) => some (!ds.isEmpty)
    | some (.dk kvs) => some (!kvs.isEmpty)
    | _ => none)
  | .fz ds => some (!ds.isEmpty)
  | _ => none
def tVal (fe : FE) : FT := fun env S => (fe env S).bind fun d S1 => match truD d S1 with
  | some b => .ok b S1
  | none => .stk
def tNotF (t : FT) : FT := fun env S => (t env S).bind fun b S1 => .ok (!b) S1
def tAndF (t u : FT) : FT := fun env S => (t env S).bind fun b S1 => if b = true then u env S1 else .ok false S1
def tOrF (t u : FT) : FT := fun env S => (t env S).bind fun b S1 => if b = true then .ok true S1 else u env S1
def eAnd (fa fb : FE) : FE := fun env S => (fa env S).bind fun d S1 => match truD d S1 with
  | some true => fb env S1
  | some false => .ok d S1
  | none => .stk
def eOr (fa fb : FE) : FE := fun env S => (fa env S).bind fun d S1 => match truD d S1 with
  | some true => .ok d S1
  | some false => fb env S1
  | none => .stk
def eNot (fa : FE) : FE := fun env S => (fa env S).bind fun d S1 => match truD d S1 with
  | some b => .ok (.bl (!b)) S1
  | none => .stk
def tB' (fe : FE) : FT := fun env S => (fe env S).bind fun d S1 => match d with
  | .bl b => .ok b S1
  | _ => .stk
/-- a < b < c -/
def eCh (g g' : D → D → Sto → PR) (fa fb fc : FE) : FE := fun env S => (fa env S).bind fun d1 S1 => (fb env S1).bind fun d2 S2 => (lift (g d1 d2 S2)).bind fun z S3 => match z with
  | .bl true => (fc env S3).bind fun d3 S4 => lift (g' d2 d3 S4)
  | .bl false => .ok (.bl false) S3
  | _ => .stk

section
variable {X : Cx} {W : WX} {a b c : Expr} {es : List Expr} {fa fb fc : FE} {fr : FA} {pos : Pos} {ft fu : FT}
end
end PV

set_option Elab.async false
set_option linter.all false
set_option maxRecDepth 100000
set_option maxHeartbeats 3999000
namespace PV
open L2 PyProof.Rows PySem PySem.Spec

section
variable {X : Cx} {W : WX} {a b c : Expr} {es : List Expr} {fa fb fc : FE} {fr : FA} {pos : Pos} {ft fu : FT}

theorem truV_of {o : Wd} {S : Sto} {d : D} {v : V} {k : Bool} {K : PySem.W.Frag} {mw : MW} (r : RS K mw o S) (h : RD K mw o d v) (e : truD d S = some k) : TruV K v o.H k := by
  cases h with
  | non => cases e; rfl
  | bl b => cases e; rfl
  | int i => cases e; rfl
  | str x =>
    unfold truD at e
    dsimp only at e
    split at e
    · rename_i hl
      refine ⟨hl, ?_⟩
      have := Option.some.inj e
      rw [← this]
      cases hx : x.length with
      | zero => rfl
      | succ n =>
        have h1 : ((n + 1 : Nat) != 0) = true := by simp
        have h2 : (((n + 1 : Nat) : Int) != 0) = true := by simp; omega
        rw [h1, h2]
    · cases e
  | @tup a ds vs q p =>
    refine .inr (.inl ⟨vs, q, ?_⟩)
    have := Option.some.inj e
    rw [← this]
    cases p <;> rfl
  | @loc n a q =>
    unfold truD at e
    dsimp only at e
    cases hn : S[n]? with
    | none => rw [hn] at e; cases e
    | some y =>
      rw [hn] at e
      obtain ⟨b, eb, z⟩ := r.obj n y hn
      rw [q] at eb; cases eb
      cases y with
      | lst ds =>
        obtain ⟨vs, h1, h2⟩ := z
        refine .inl ⟨vs, SqL.of h1, ?_⟩
        have := Option.some.inj e
        rw [← this]
        cases h2 <;> rfl
      | dk ds =>
        obtain ⟨vs, h1, h2⟩ := z
        refine .inr (.inr ⟨vs, h1, ?_⟩)
        have := Option.some.inj e
        rw [← this]
        cases h2 <;> rfl
      | dd ds => cases e
      | ins c fs => cases e
  | gl _ => cases e
  | ty _ => cases e
  | @fz a ds vs q p =>
    refine .inl ⟨vs, q.sq, ?_⟩
    have := Option.some.inj e
    rw [← this]
    cases p <;> rfl

theorem d_var {i : Nat} {x : Str} (hN : X.N[i]? = some x) (hv : Vis X.env.scope x) (hd : (x == ("__debug__" : Str)) = false) (hcd : (x == ("__classdict__" : Str)) = false) : PE X (.Name x pos) (tE X.K X.mw W (eVar i)) := by
  refine PE.imp (pe_var hN hv hd hcd) fun σ H Q h => ?_
  obtain ⟨env, S, o, ⟨rfl, re, rs⟩, p⟩ := h
  unfold eVar at p
  split at p
  · rename_i d e
    obtain ⟨v, hv, r⟩ := re.val i d e
    exact ⟨v, hv, p.here rs v r⟩
  · exact False.elim p
theorem d_c {d : D} {v : V} (h : PE X a (tC v)) (r : ∀ o : Wd, RD X.K X.mw o d v) : PE X a (tE X.K X.mw W (eC d)) := by
  refine PE.imp h fun σ H Q h => ?_
  obtain ⟨env, S, o, ⟨rfl, re, rs⟩, p⟩ := h
  exact p.here rs v (r o)
theorem d_bin {op : Operator} {g : D → D → Sto → PR} (ho : OpD X (binaryOp op) g) (ha : PE X a (tE X.K X.mw W fa)) (hb : PE X b (tE X.K X.mw W fb)) : PE X (.BinOp a op b pos) (tE X.K X.mw W (eBin g fa fb)) := by
  refine PE.imp (pe_op ho ha hb) fun σ H Q h => ?_
  obtain ⟨env, S, o, ⟨rfl, re, rs⟩, p⟩ := h
  refine ⟨env, S, o, ⟨rfl, re, rs⟩, (Post.bind p).imp fun d1 S1 o1 l1 rs1 p1 v1 r1 => ?_⟩
  refine ⟨env, S1, o1, ⟨rfl, re.up l1, rs1⟩, (Post.bind p1).imp fun d2 S2 o2 l2 rs2 p2 v2 r2 => ?_⟩
  obtain ⟨d, S', e, q⟩ := lift_post p2
  exact ⟨o2, d1, d2, S2, d, S', rfl, r1.up l2, r2, rs2, e, fun o' v l rs r => q o' l rs v r⟩
theorem d_cmp {op : CmpOp} {g : D → D → Sto → PR} (ho : OpD X (compareOp op) g) (ha : PE X a (tE X.K X.mw W fa)) (hb : PE X b (tE X.K X.mw W fb)) (hm : behindInMarks op b = false) : PE X (.Compare a [op] [b] pos) (tE X.K X.mw W (eBin g fa fb)) := by
  refine PE.imp (pe_cmpR ho ha hb hm) fun σ H Q h => ?_
  obtain ⟨env, S, o, ⟨rfl, re, rs⟩, p⟩ := h
  refine ⟨env, S, o, ⟨rfl, re, rs⟩, (Post.bind p).imp fun d1 S1 o1 l1 rs1 p1 v1 r1 => ?_⟩
  refine ⟨env, S1, o1, ⟨rfl, re.up l1, rs1⟩, (Post.bind p1).imp fun d2 S2 o2 l2 rs2 p2 v2 r2 => ?_⟩
  obtain ⟨d, S', e, q⟩ := lift_post p2
  exact ⟨o2, d1, d2, S2, d, S', rfl, r1.up l2, r2, rs2, e, fun o' v l rs r => q o' l rs v r⟩
theorem d_tcmp {op : CmpOp} {g : D → D → Sto → PR} (ho : OpD X (compareOp op) g) (ha : PE X a (tE X.K X.mw W fa)) (hb : PE X b (tE X.K X.mw W fb)) (hm : behindInMarks op b = false) : PT X (.Compare a [op] [b] pos) (tT X.K X.mw W (tB' (eBin g fa fb))) := by
  refine PT.imp (pt_cmpR ho ha hb hm) fun σ H Q h => ?_
  obtain ⟨env, S, o, ⟨rfl, re, rs⟩, p⟩ := h
  refine ⟨env, S, o, ⟨rfl, re, rs⟩, (Post.bind (Post.bind p)).imp fun d1 S1 o1 l1 rs1 p1 v1 r1 => ?_⟩
  refine ⟨env, S1, o1, ⟨rfl, re.up l1, rs1⟩, (Post.bind p1).imp fun d2 S2 o2 l2 rs2 p2 v2 r2 => ?_⟩
  obtain ⟨d, S', e, q⟩ := lift_post p2
  refine ⟨o2, d1, d2, S2, d, S', rfl, r1.up l2, r2, rs2, e, fun o' v l rs r => ?_⟩
  have z := q o' l rs
  cases r with
  | bl k => exact ⟨k, rfl, z.here rs⟩
  | _ => exact False.elim z
theorem d_ch {op op' : CmpOp} {g g' : D → D → Sto → PR} (ho : OpD X (compareOp op) g) (ho' : OpD X (compareOp op') g') (ha : PE X a (tE X.K X.mw W fa)) (hb : PE X b (tE X.K X.mw W fb)) (hc : PE X c (tE X.K X.mw W fc))
    (hm : lastMarks [op, op'] [b, c] = false) : PE X (.Compare a [op, op'] [b, c] pos) (tE X.K X.mw W (eCh g g' fa fb fc)) := by
  refine PE.imp (pe_chain ho ho' ha hb hc hm) fun σ H Q h => ?_
  obtain ⟨env, S, o, ⟨rfl, re, rs⟩, p⟩ := h
  refine ⟨env, S, o, ⟨rfl, re, rs⟩, (Post.bind p).imp fun d1 S1 o1 l1 rs1 p1 v1 r1 => ?_⟩
  refine ⟨env, S1, o1, ⟨rfl, re.up l1, rs1⟩, (Post.bind p1).imp fun d2 S2 o2 l2 rs2 p2 v2 r2 => ?_⟩
  obtain ⟨d, S', e, q⟩ := lift_post (Post.bind p2)
  refine ⟨o2, d1, d2, S2, d, S', rfl, r1.up l2, r2, rs2, e, fun o3 v l3 rs3 r3 => ?_⟩
  have z := q o3 l3 rs3
  cases r3 with
  | bl k =>
    cases k with
    | false => exact ⟨false, rfl, z.here rs3 _ (.bl false)⟩
    | true =>
      refine ⟨true, rfl, env, S', o3, ⟨rfl, (re.up (l1.trans l2)).up l3, rs3⟩, (Post.bind z).imp fun d3 S4 o4 l4 rs4 p4 v4 r4 => ?_⟩
      obtain ⟨d5, S5, e5, q5⟩ := lift_post p4
      exact ⟨o4, d2, d3, S4, d5, S5, rfl, r2.up (l3.trans l4), r4, rs4, e5, fun o' v l rs r => q5 o' l rs v r⟩
  | _ => exact False.elim z
theorem d_tch {op op' : CmpOp} {g g' : D → D → Sto → PR} (ho : OpD X (compareOp op) g) (ho' : OpD X (compareOp op') g') (ha : PE X a (tE X.K X.mw W fa)) (hb : PE X b (tE X.K X.mw W fb)) (hc : PE X c (tE X.K X.mw W fc))
    (hm : lastMarks [op, op'] [b, c] = false) : PT X (.Compare a [op, op'] [b, c] pos) (tT X.K X.mw W (tB' (eCh g g' fa fb fc))) := by
  refine PT.imp (pt_chain ho ho' ha hb hc hm) fun σ H Q h => ?_
  obtain ⟨env, S, o, ⟨rfl, re, rs⟩, p⟩ := h
  refine ⟨env, S, o, ⟨rfl, re, rs⟩, (Post.bind (Post.bind p)).imp fun d1 S1 o1 l1 rs1 p1 v1 r1 => ?_⟩
  refine ⟨env, S1, o1, ⟨rfl, re.up l1, rs1⟩, (Post.bind p1).imp fun d2 S2 o2 l2 rs2 p2 v2 r2 => ?_⟩
  obtain ⟨d, S', e, q⟩ := lift_post (Post.bind p2)
  refine ⟨o2, d1, d2, S2, d, S', rfl, r1.up l2, r2, rs2, e, fun o3 v l3 rs3 r3 => ?_⟩
  have z := q o3 l3 rs3
  cases r3 with
  | bl k =>
    cases k with
    | false => exact ⟨false, rfl, false, rfl, (z.here rs3).here rs3⟩
    | true =>
      refine ⟨true, rfl, env, S', o3, ⟨rfl, (re.up (l1.trans l2)).up l3, rs3⟩, (Post.bind z).imp fun d3 S4 o4 l4 rs4 p4 v4 r4 => ?_⟩
      obtain ⟨d5, S5, e5, q5⟩ := lift_post p4
      refine ⟨o4, d2, d3, S4, d5, S5, rfl, r2.up (l3.trans l4), r4, rs4, e5, fun o' v l rs r => ?_⟩
      have z5 := q5 o' l rs
      cases r with
      | bl k => exact ⟨k, rfl, z5.here rs⟩
      | _ => exact False.elim z5
  | _ => exact False.elim z
theorem d_un {op : UnaryOp} {g : D → Sto → PR} (ho : UnD X (unaryOp op) g) (ha : PE X a (tE X.K X.mw W fa)) : PE X (.UnaryOp op a pos) (tE X.K X.mw W (eUn g fa)) := by
  refine PE.imp (pe_un ho ha) fun σ H Q h => ?_
  obtain ⟨env, S, o, ⟨rfl, re, rs⟩, p⟩ := h
  refine ⟨env, S, o, ⟨rfl, re, rs⟩, (Post.bind p).imp fun d1 S1 o1 l1 rs1 p1 v1 r1 => ?_⟩
  obtain ⟨d, S', e, q⟩ := lift_post p1
  exact ⟨o1, d1, S1, d, S', rfl, r1, rs1, e, fun o' v l rs r => q o' l rs v r⟩
theorem d_anil : PA X [] (tA X.K X.mw W aNil) := by
  refine PA.imp pa_nil fun σ H Q h => ?_
  obtain ⟨env, S, o, ⟨rfl, re, rs⟩, p⟩ := h
  exact p.here rs [] .nil
theorem d_acons (ha : PE X a (tE X.K X.mw W fa)) (hr : PA X es (tA X.K X.mw W fr)) (hs : starEach (a :: es) X.env = (false, eval a X.env) :: starEach es X.env) : PA X (a :: es) (tA X.K X.mw W (aCons fa fr)) := by
  refine PA.imp (pa_cons ha hr hs) fun σ H Q h => ?_
  obtain ⟨env, S, o, ⟨rfl, re, rs⟩, p⟩ := h
  refine ⟨env, S, o, ⟨rfl, re, rs⟩, (Post.bind p).imp fun d1 S1 o1 l1 rs1 p1 v1 r1 => ?_⟩
  refine ⟨env, S1, o1, ⟨rfl, re.up l1, rs1⟩, (Post.bind p1).imp fun ds S2 o2 l2 rs2 p2 vs r2 => ?_⟩
  exact p2.here rs2 _ (.cons (r1.up l2) r2)
/-- how many values a list of arguments has -/
def LenA (fr : FA) (n : Nat) : Prop := ∀ env S ds S', fr env S = .ok ds S' → ds.length = n
theorem lenA_nil : LenA aNil 0 := fun env S ds S' e => by cases e; rfl
theorem lenA_cons {n : Nat} (h : LenA fr n) : LenA (aCons fa fr) (n + 1) := fun env S ds S' e => by
  unfold aCons at e
  cases h1 : fa env S with
  | ok d S1 =>
    rw [h1] at e
    have e : (fr env S1).bind (fun ds S2 => .ok (d :: ds) S2) = .ok ds S' := e
    cases h2 : fr env S1 with
    | ok ds2 S2 =>
      rw [h2] at e
      cases e
      rw [List.length_cons, h env S1 ds2 _ h2]
    | exc x S2 => rw [h2] at e; cases e
    | stk => rw [h2] at e; cases e
  | exc x S1 => rw [h1] at e; cases e
  | stk => rw [h1] at e; cases e
theorem postLen {α : Type} {K : PySem.W.Frag} {mw : MW} {Wx : Ex → Wd → Prop} {R : List α → Sto → Wd → Prop} {o : Wd} {r : Out (List α)} {n : Nat} (h : Post K mw Wx R o r) (hn : ∀ ds S', r = .ok ds S' → ds.length = n) :
    Post K mw Wx (fun ds S o' => ds.length = n ∧ R ds S o') o r := by
  cases r with
  | ok ds S => exact fun o' l rs => ⟨hn _ _ rfl, h o' l rs⟩
  | exc x S => exact h
  | stk => exact h
theorem d_tup {x1 : Nat} {n : Nat} (h : PA X es (tA X.K X.mw W fr)) (hl : LenA fr n) (hn : n ≤ sizeLine) : PE X (.Tuple es x1 pos) (tE X.K X.mw W (eTup fr)) := by
  refine PE.imp (pe_tup h) fun σ H Q h => ?_
  obtain ⟨env, S, o, ⟨rfl, re, rs⟩, p⟩ := h
  refine ⟨env, S, o, ⟨rfl, re, rs⟩, (postLen (Post.bind p) (hl env S)).imp fun ds S1 o1 l1 rs1 p1 vs r1 => ?_⟩
  obtain ⟨e1, p1⟩ := p1
  refine ⟨by rw [← r1.length, e1]; exact hn, fun q hq => ?_⟩
  obtain ⟨h1, h2, h3⟩ := rs1.newTup hq r1
  exact p1 _ h1 h2 _ h3
theorem d_lst {n : Nat} (h : PA X es (tA X.K X.mw W fr)) (hl : LenA fr n) (hn : n ≤ sizeLine) : PE X (.List es pos) (tE X.K X.mw W (eLst fr)) := by
  refine PE.imp (pe_lst h) fun σ H Q h => ?_
  obtain ⟨env, S, o, ⟨rfl, re, rs⟩, p⟩ := h
  refine ⟨env, S, o, ⟨rfl, re, rs⟩, (postLen (Post.bind p) (hl env S)).imp fun ds S1 o1 l1 rs1 p1 vs r1 => ?_⟩
  obtain ⟨e1, p1⟩ := p1
  refine ⟨by rw [← r1.length, e1]; exact hn, fun q hq => ?_⟩
  obtain ⟨h1, h2, h3⟩ := rs1.newLst hq r1
  exact p1 _ h1 h2 _ h3
theorem d_callB {x : Str} {p : Pos} {id : String} {g : List D → Sto → PR} (hc : CallD X (.builtin id) g) (hg : Gl X x) (hm : X.mg x = none) (hv : bootBuiltins x = some (.builtin id)) (ha : PA X (a :: es) (tA X.K X.mw W fr)) (hn : x ≠ "__name__") (hdb : (x == ("__debug__" : Str)) = false)
    (he : starEach (a :: es) X.env = (false, eval a X.env) :: starEach es X.env) (hpl : (backTo pos (starEach es X.env)).any (·.1) = false) : PE X (.Call (.Name x p) (a :: es) [] pos) (tE X.K X.mw W (eCB g fr)) := by
  refine PE.imp (pe_callB hc hg hm hv ha hn hdb he hpl) fun σ H Q h => ?_
  obtain ⟨env, S, o, ⟨rfl, re, rs⟩, p⟩ := h
  refine ⟨env, S, o, ⟨rfl, re, rs⟩, (Post.bind p).imp fun ds S1 o1 l1 rs1 p1 vs r1 => ?_⟩
  obtain ⟨d, S', e, q⟩ := lift_post p1
  exact ⟨o1, ds, S1, d, S', rfl, r1, rs1, e, fun o' v l rs r => q o' l rs v r⟩
theorem d_callTy {x : Str} {p : Pos} {id : String} {g : List D → Sto → PR} (hc : CallD X (.type id) g) (hg : Gl X x) (hm : X.mg x = none) (hv : bootBuiltins x = some (.type id)) (ha : PA X (a :: es) (tA X.K X.mw W fr)) (hn : x ≠ "__name__") (hdb : (x == ("__debug__" : Str)) = false)
    (he : starEach (a :: es) X.env = (false, eval a X.env) :: starEach es X.env) (hpl : (backTo pos (starEach es X.env)).any (·.1) = false) : PE X (.Call (.Name x p) (a :: es) [] pos) (tE X.K X.mw W (eCB g fr)) := by
  refine PE.imp (pe_callTy hc hg hm hv ha hn hdb he hpl) fun σ H Q h => ?_
  obtain ⟨env, S, o, ⟨rfl, re, rs⟩, p⟩ := h
  refine ⟨env, S, o, ⟨rfl, re, rs⟩, (Post.bind p).imp fun ds S1 o1 l1 rs1 p1 vs r1 => ?_⟩
  obtain ⟨d, S', e, q⟩ := lift_post p1
  exact ⟨o1, ds, S1, d, S', rfl, r1, rs1, e, fun o' v l rs r => q o' l rs v r⟩

/-! ### tests -/
theorem d_tval (ha : PE X a (tE X.K X.mw W fa)) (he : ∀ whole, isTrue a X.env whole = (do let v ← whole; standAt a.pos; holding [v] (truthy v))) : PT X a (tT X.K X.mw W (tVal fa)) := by
  refine PT.imp (pt_truth ha he) fun σ H Q h => ?_
  obtain ⟨env, S, o, ⟨rfl, re, rs⟩, p⟩ := h
  refine ⟨env, S, o, ⟨rfl, re, rs⟩, (Post.bind p).imp fun d1 S1 o1 l1 rs1 p1 v1 r1 => ?_⟩
  split at p1
  · rename_i k e
    exact ⟨k, truV_of rs1 r1 e, p1.here rs1⟩
  · exact False.elim p1
theorem d_tnot (ha : PT X a (tT X.K X.mw W ft)) : PT X (.UnaryOp .Not a pos) (tT X.K X.mw W (tNotF ft)) := by
  refine PT.imp (pt_not ha) fun σ H Q h => ?_
  obtain ⟨env, S, o, ⟨rfl, re, rs⟩, p⟩ := h
  refine ⟨env, S, o, ⟨rfl, re, rs⟩, (Post.bind p).imp fun d1 S1 o1 l1 rs1 p1 => ?_⟩
  exact p1.here rs1
theorem d_tand {rest : List Expr} (ha : PT X a (tT X.K X.mw W ft)) (hb : PW X (.BoolOp .And (b :: rest) pos) (tT X.K X.mw W fu)) : PW X (.BoolOp .And (a :: b :: rest) pos) (tT X.K X.mw W (tAndF ft fu)) := by
  have q := pw_and ha hb
  refine ⟨fun wh pins s σ H Q I h => q.run wh pins s σ H Q I ?_⟩
  obtain ⟨env, S, o, ⟨rfl, re, rs⟩, p⟩ := h
  refine ⟨env, S, o, ⟨rfl, re, rs⟩, (Post.bind p).imp fun d1 S1 o1 l1 rs1 p1 => ?_⟩
  cases d1 with
  | true => exact ⟨env, S1, o1, ⟨rfl, re.up l1, rs1⟩, p1⟩
  | false => exact p1.here rs1
theorem d_tor {rest : List Expr} (ha : PT X a (tT X.K X.mw W ft)) (hb : PW X (.BoolOp .Or (b :: rest) pos) (tT X.K X.mw W fu)) : PW X (.BoolOp .Or (a :: b :: rest) pos) (tT X.K X.mw W (tOrF ft fu)) := by
  have q := pw_or ha hb
  refine ⟨fun wh pins s σ H Q I h => q.run wh pins s σ H Q I ?_⟩
  obtain ⟨env, S, o, ⟨rfl, re, rs⟩, p⟩ := h
  refine ⟨env, S, o, ⟨rfl, re, rs⟩, (Post.bind p).imp fun d1 S1 o1 l1 rs1 p1 => ?_⟩
  cases d1 with
  | false => exact ⟨env, S1, o1, ⟨rfl, re.up l1, rs1⟩, p1⟩
  | true => exact p1.here rs1
theorem d_and {rest : List Expr} (ha : PE X a (tE X.K X.mw W fa)) (hb : PE X (.BoolOp .And (b :: rest) pos) (tE X.K X.mw W fb)) : PE X (.BoolOp .And (a :: b :: rest) pos) (tE X.K X.mw W (eAnd fa fb)) := by
  refine PE.imp (pe_andT ha hb) fun σ H Q h => ?_
  obtain ⟨env, S, o, ⟨rfl, re, rs⟩, p⟩ := h
  refine ⟨env, S, o, ⟨rfl, re, rs⟩, (Post.bind p).imp fun d1 S1 o1 l1 rs1 p1 v1 r1 => ?_⟩
  split at p1
  · rename_i e
    exact ⟨true, truV_of rs1 r1 e, env, S1, o1, ⟨rfl, re.up l1, rs1⟩, p1⟩
  · rename_i e
    exact ⟨false, truV_of rs1 r1 e, p1.here rs1 v1 r1⟩
  · exact False.elim p1
theorem d_or {rest : List Expr} (ha : PE X a (tE X.K X.mw W fa)) (hb : PE X (.BoolOp .Or (b :: rest) pos) (tE X.K X.mw W fb)) : PE X (.BoolOp .Or (a :: b :: rest) pos) (tE X.K X.mw W (eOr fa fb)) := by
  refine PE.imp (pe_orT ha hb) fun σ H Q h => ?_
  obtain ⟨env, S, o, ⟨rfl, re, rs⟩, p⟩ := h
  refine ⟨env, S, o, ⟨rfl, re, rs⟩, (Post.bind p).imp fun d1 S1 o1 l1 rs1 p1 v1 r1 => ?_⟩
  split at p1
  · rename_i e
    exact ⟨true, truV_of rs1 r1 e, p1.here rs1 v1 r1⟩
  · rename_i e
    exact ⟨false, truV_of rs1 r1 e, env, S1, o1, ⟨rfl, re.up l1, rs1⟩, p1⟩
  · exact False.elim p1
theorem d_not (ha : PE X a (tE X.K X.mw W fa)) : PE X (.UnaryOp .Not a pos) (tE X.K X.mw W (eNot fa)) := by
  refine PE.imp (pe_notT ha) fun σ H Q h => ?_
  obtain ⟨env, S, o, ⟨rfl, re, rs⟩, p⟩ := h
  refine ⟨env, S, o, ⟨rfl, re, rs⟩, (Post.bind p).imp fun d1 S1 o1 l1 rs1 p1 v1 r1 => ?_⟩
  split at p1
  · rename_i k e
    exact ⟨k, truV_of rs1 r1 e, p1.here rs1 _ (.bl _)⟩
  · exact False.elim p1
theorem d_ifx (hc : PT X c (tT X.K X.mw W ft)) (ha : PE X a (tE X.K X.mw W fa)) (hb : PE X b (tE X.K X.mw W fb)) : PE X (.IfExp c a b pos) (tE X.K X.mw W (eIfx ft fa fb)) := by
  refine PE.imp (pe_ifExp hc ha hb) fun σ H Q h => ?_
  obtain ⟨env, S, o, ⟨rfl, re, rs⟩, p⟩ := h
  refine ⟨env, S, o, ⟨rfl, re, rs⟩, (Post.bind p).imp fun k S1 o1 l1 rs1 p1 => ?_⟩
  cases k with
  | true => exact ⟨env, S1, o1, ⟨rfl, re.up l1, rs1⟩, p1⟩
  | false => exact ⟨env, S1, o1, ⟨rfl, re.up l1, rs1⟩, p1⟩
end
end PV

set_option Elab.async false
set_option linter.all false
set_option maxRecDepth 100000
set_option maxHeartbeats 3999000
namespace PV
open L2 PyProof.Rows PySem PySem.Spec

/-! ### arithmetic -/
def addD (d1 d2 : D) (S : Sto) : PR := match d1, d2 with
  | .int i, .int j => some (.int (i + j), S)
  | .str x, .str y => if x.length + y.length ≤ sizeLine then some (.str (x ++ y), S) else none
  | .tup xs, .tup ys => if xs.length + ys.length ≤ sizeLine then some (.tup (xs ++ ys), S) else none
  | a, b => (match lisOf S a, lisOf S b with
    | some xs, some ys => if xs.length + ys.length ≤ sizeLine then some (.loc S.length, S ++ [.lst (xs ++ ys)]) else none
    | _, _ => none)
def subD (d1 d2 : D) (S : Sto) : PR := match d1, d2 with
  | .int i, .int j => some (.int (i - j), S)
  | _, _ => none
def mulOk (i j : Int) : Bool := decide ((Builtin.Int.intBits i : Int) + (Builtin.Int.intBits j : Int) ≤ 134217728)
def mulD (d1 d2 : D) (S : Sto) : PR := match d1, d2 with
  | .int i, .int j => if mulOk i j = true then some (.int (i * j), S) else none
  | .loc n, .int k => (match lstAt S n with
    | some xs => if -(2 ^ 63) ≤ k ∧ k < 2 ^ 63 ∧ xs.length * k.toNat ≤ sizeLine then some (.loc S.length, S ++ [.lst (List.replicate k.toNat xs).flatten]) else none
    | none => none)
  | _, _ => none
def fdivD (d1 d2 : D) (S : Sto) : PR := match d1, d2 with
  | .int i, .int j => if 0 < j ∧ j.natAbs.log2 < 9000 then some (.int (i / j), S) else none
  | _, _ => none
def modD (d1 d2 : D) (S : Sto) : PR := match d1, d2 with
  | .int i, .int j => if 0 < j then some (.int (i % j), S) else none
  | _, _ => none
def powOk (i j : Int) : Bool := decide (0 ≤ j ∧ (Builtin.Int.intBits i : Int) * j ≤ 2 ^ 27)
def powD (d1 d2 : D) (S : Sto) : PR := match d1, d2 with
  | .int i, .int j => if powOk i j = true then some (.int (i ^ j.toNat), S) else none
  | _, _ => none
def shlD (d1 d2 : D) (S : Sto) : PR := match d1, d2 with
  | .int i, .int j => if 0 ≤ j ∧ (Builtin.Int.intBits i : Int) + j ≤ 2 ^ 27 then some (.int (i * 2 ^ j.toNat), S) else none
  | _, _ => none
def shrD (d1 d2 : D) (S : Sto) : PR := match d1, d2 with
  | .int i, .int j => if 0 ≤ j then some (.int (i / 2 ^ j.toNat), S) else none
  | _, _ => none
def andD (d1 d2 : D) (S : Sto) : PR := match d1, d2 with
  | .int i, .int j => some (.int (Builtin.bitAnd i j), S)
  | _, _ => none
def orD (d1 d2 : D) (S : Sto) : PR := match d1, d2 with
  | .int i, .int j => some (.int (Builtin.bitOr i j), S)
  | _, _ => none
def xorD (d1 d2 : D) (S : Sto) : PR := match d1, d2 with
  | .int i, .int j => some (.int (Builtin.bitXor i j), S)
  | _, _ => none
def negD (d : D) (S : Sto) : PR := match d with
  | .int i => some (.int (-i), S)
  | _ => none
/-! ### data as a whole -/
def mapO {α β : Type} (f : α → Option β) : List α → Option (List β)
  | [] => some []
  | a :: r => match f a, mapO f r with
    | some b, some bs => some (b :: bs)
    | _, _ => none
def snap (S : Sto) : Nat → D → Option PyData
  | _, .non => some .none
  | _, .bl b => some (.bool b)
  | _, .int i => some (.int i)
  | _, .str x => some (.str x)
  | n + 1, .tup ds => (mapO (snap S n) ds).map .tuple
  | n + 1, .fz ds => (mapO (snap S n) ds).map .list
  | n + 1, .loc k => (match lstAt S k with
    | some ds => (mapO (snap S n) ds).map .list
    | none => none)
  | _, _ => none
/-- the depth that is looked through -/
def deep : Nat := 64
def eqO (S : Sto) (d1 d2 : D) : Option Bool := match snap S deep d1, snap S deep d2 with
  | some a, some b => if SeqAt.shaped a = true ∧ SeqAt.shaped b = true then some (PyData.eqv a b) else none
  | _, _ => none
def eqD (d1 d2 : D) (S : Sto) : PR := (eqO S d1 d2).map fun b => (.bl b, S)
def neD (d1 d2 : D) (S : Sto) : PR := (eqO S d1 d2).map fun b => (.bl (!b), S)
def inO (S : Sto) (d1 d2 : D) : Option Bool := match snap S deep d1, snap S deep d2 with
  | some a, some (.list bs) => if SeqAt.shaped a = true ∧ SeqAt.shaped (.list bs) = true then some (bs.any fun z => PyData.eqv z a) else none
  | some a, some (.tuple bs) => if SeqAt.shaped a = true ∧ SeqAt.shaped (.tuple bs) = true then some (bs.any fun z => PyData.eqv z a) else none
  | _, _ => none
def inD (d1 d2 : D) (S : Sto) : PR := (inO S d1 d2).map fun b => (.bl b, S)
def notInD (d1 d2 : D) (S : Sto) : PR := (inO S d1 d2).map fun b => (.bl (!b), S)
def isNon : D → Bool
  | .non => true
  | _ => false
def isD (d1 d2 : D) (S : Sto) : PR := match d2 with
  | .non => some (.bl (isNon d1), S)
  | _ => none
def isNotD (d1 d2 : D) (S : Sto) : PR := match d2 with
  | .non => some (.bl (!isNon d1), S)
  | _ => none

section
variable {X : Cx}
theorem RD.non_iff {K : PySem.W.Frag} {mw : MW} {o : Wd} {d : D} {v : V} (h : RD K mw o d v) : decide (v = .non) = isNon d := by
  cases h <;> rfl
theorem op_catS : OpR X (binaryOp .Add) (fun x y H Q => ∃ l b xs zs, x = .ref l ∧ y = .ref b ∧ SqL X.K H l xs ∧ SqL X.K H b zs ∧ xs.length + zs.length ≤ sizeLine ∧ ∀ p, H p = none → Q (.ref p) (upd H p (.lst (xs ++ zs)))) := by
  intro pins s σ H x y v u Q I rx ry h
  obtain ⟨l, b, xs, zs, rfl, rfl, hl, hb, hz, q⟩ := h
  cases rx
  cases ry
  obtain ⟨i1, r1, p1, z1⟩ := I.list hl
  obtain ⟨i2, r2, p2, z2⟩ := I.list hb
  obtain ⟨m, F⟩ := I.fr
  obtain ⟨⟨c1, g1, t1, k1⟩, ho, hc, n, hd⟩ := p1.isList
  obtain ⟨⟨c2, g2, t2, k2⟩, ho2, hc2, n2, hd2⟩ := p2.isList
  simp only at hc hd hc2 hd2
  subst hc hd hc2 hd2
  refine concat_meets ⟨_, ho, rfl⟩ ⟨_, ho2, rfl⟩ noFill_list_add seq_list_add PySem.F.slot_list_add PySem.F.entry_list_add (PySem.F.args_list_add_2 _ _)
    (list_addW l b i1.toArray i2.toArray n n2 g1 g2 k1 k2 (by rw [List.size_toArray, List.size_toArray, ← r1.length, ← r2.length]; exact hz)) ⟨ho, ho2, ?_⟩
  rw [show i1.toArray ++ i2.toArray = (i1 ++ i2).toArray by simp]
  exact ⟨.ref _, _, I.lnew (t' := s.toks) (r1.append r2) (by rw [List.length_append]; omega), rfl, q _ I.fresh⟩
theorem op_powW : OpR X (binaryOp .Pow) (rI (fun i j => 0 ≤ j ∧ (Builtin.Int.intBits i : Int) * j ≤ 2 ^ 27) fun i j => .int (i ^ j.toNat)) := opI fun _ _ _ _ _ _ _ hc q => pow_int hc.1 hc.2 q

theorem opd_int {f : Value → Value → Sem Value} {g : Int → Int → Int} {C : Int → Int → Prop} {G : D → D → Sto → PR} (h : OpR X f (rI C fun i j => .int (g i j)))
    (hG : ∀ d1 d2 S d S', G d1 d2 S = some (d, S') → ∃ i j, d1 = .int i ∧ d2 = .int j ∧ C i j ∧ d = .int (g i j) ∧ S' = S) : OpD X f G := by
  intro pins s σ H x y v u Q I rx ry hh
  obtain ⟨o, d1, d2, S, d, S', rfl, r1, r2, rs, e, q⟩ := hh
  obtain ⟨i, j, rfl, rfl, hc, rfl, rfl⟩ := hG _ _ _ _ _ e
  cases r1
  cases r2
  exact h pins s σ _ _ _ v u Q I rx ry ⟨i, j, rfl, rfl, hc, q o _ .refl rs (.int _)⟩
theorem opd_int0 {f : Value → Value → Sem Value} {g : Int → Int → Int} {G : D → D → Sto → PR} (h : OpR X f (rI0 fun i j => .int (g i j)))
    (hG : ∀ d1 d2 S d S', G d1 d2 S = some (d, S') → ∃ i j, d1 = .int i ∧ d2 = .int j ∧ d = .int (g i j) ∧ S' = S) : OpD X f G := by
  intro pins s σ H x y v u Q I rx ry hh
  obtain ⟨o, d1, d2, S, d, S', rfl, r1, r2, rs, e, q⟩ := hh
  obtain ⟨i, j, rfl, rfl, rfl, rfl⟩ := hG _ _ _ _ _ e
  cases r1
  cases r2
  exact h pins s σ _ _ _ v u Q I rx ry ⟨i, j, rfl, rfl, q o _ .refl rs (.int _)⟩
theorem opd_add : OpD X (binaryOp .Add) addD := by
  intro pins s σ H x y v u Q I rx ry hh
  obtain ⟨o, d1, d2, S, d, S', rfl, r1, r2, rs, e, q⟩ := hh
  unfold addD at e
  split at e
  · cases e
    cases r1
    cases r2
    exact op_add pins s σ _ _ _ v u Q I rx ry ⟨_, _, rfl, rfl, q o _ .refl rs (.int _)⟩
  · split at e
    · rename_i hl
      cases e
      cases r1
      cases r2
      exact op_add_str pins s σ _ _ _ v u Q I rx ry ⟨_, _, rfl, rfl, hl, q o _ .refl rs (.str _)⟩
    · cases e
  · split at e
    · rename_i xs ys hl
      cases e
      cases r1 with
      | @tup a _ vs h1 p1 =>
      cases r2 with
      | @tup b _ ws h2 p2 =>
      refine op_catA pins s σ _ _ _ v u Q I rx ry ⟨a, b, vs, ws, rfl, rfl, h1, h2, by rw [← p1.length, ← p2.length]; exact hl, fun z => ?_, fun z1 z2 => ?_, fun z1 z2 p hp => ?_⟩
      · subst z
        cases p1
        exact q o _ .refl rs (.tup h2 p2)
      · subst z2
        cases p2
        exact q o _ .refl rs (.tup h1 (by rw [List.append_nil]; exact p1))
      · obtain ⟨a1, a2, a3⟩ := rs.newTup hp (p1.append p2)
        exact q _ _ a1 a2 a3
    · cases e
  · split at e
    · rename_i xs ys e1 e2
      split at e
      · rename_i hl
        cases e
        obtain ⟨a, vs, rfl, p1, h1⟩ := r1.lis rs e1
        obtain ⟨b, ws, rfl, p2, h2⟩ := r2.lis rs e2
        refine op_catS pins s σ _ _ _ v u Q I rx ry ⟨a, b, vs, ws, rfl, rfl, h1, h2, by rw [← p1.length, ← p2.length]; exact hl, fun p hp => ?_⟩
        obtain ⟨a1, a2, a3⟩ := rs.newLst hp (p1.append p2)
        exact q _ _ a1 a2 a3
      · cases e
    · cases e
theorem opd_sub : OpD X (binaryOp .Sub) subD := opd_int0 op_sub fun d1 d2 S d S' e => by
  unfold subD at e
  split at e
  · cases e; exact ⟨_, _, rfl, rfl, rfl, rfl⟩
  · cases e
theorem mulOk_ok {i j : Int} (h : mulOk i j = true) : CMulX i j := by
  unfold mulOk at h
  unfold CMulX
  exact of_decide_eq_true h
theorem opd_mul : OpD X (binaryOp .Mult) mulD := by
  intro pins s σ H x y v u Q I rx ry hh
  obtain ⟨o, d1, d2, S, d, S', rfl, r1, r2, rs, e, q⟩ := hh
  unfold mulD at e
  split at e
  · split at e
    · rename_i hm
      cases e
      cases r1
      cases r2
      exact op_mulX pins s σ _ _ _ v u Q I rx ry ⟨_, _, rfl, rfl, mulOk_ok hm, q o _ .refl rs (.int _)⟩
    · cases e
  · split at e
    · rename_i xs e1
      split at e
      · rename_i hc
        cases e
        cases r2
        cases r1 with
        | @loc n a hn =>
        obtain ⟨vs, h1, p1⟩ := rs.lst hn e1
        refine op_rep pins s σ _ _ _ v u Q I rx ry ⟨a, _, vs, rfl, rfl, h1, hc.1, hc.2.1, by rw [← p1.length]; exact hc.2.2, fun p hp => ?_⟩
        obtain ⟨a1, a2, a3⟩ := rs.newLst hp (p1.rep _)
        exact q _ _ a1 a2 a3
      · cases e
    · cases e
  · cases e
theorem opd_fdiv : OpD X (binaryOp .FloorDiv) fdivD := opd_int op_fdivW fun d1 d2 S d S' e => by
  unfold fdivD at e
  split at e
  · split at e
    · rename_i hc; cases e; exact ⟨_, _, rfl, rfl, hc, rfl, rfl⟩
    · cases e
  · cases e
theorem opd_mod : OpD X (binaryOp .Mod) modD := opd_int op_mod fun d1 d2 S d S' e => by
  unfold modD at e
  split at e
  · split at e
    · rename_i hc; cases e; exact ⟨_, _, rfl, rfl, hc, rfl, rfl⟩
    · cases e
  · cases e
theorem opd_pow : OpD X (binaryOp .Pow) powD := opd_int op_powW fun d1 d2 S d S' e => by
  unfold powD at e
  split at e
  · split at e
    · rename_i hc; cases e; exact ⟨_, _, rfl, rfl, of_decide_eq_true hc, rfl, rfl⟩
    · cases e
  · cases e
theorem opd_shl : OpD X (binaryOp .LShift) shlD := opd_int op_shlW fun d1 d2 S d S' e => by
  unfold shlD at e
  split at e
  · split at e
    · rename_i hc; cases e; exact ⟨_, _, rfl, rfl, hc, rfl, rfl⟩
    · cases e
  · cases e
theorem opd_shr : OpD X (binaryOp .RShift) shrD := opd_int op_shr fun d1 d2 S d S' e => by
  unfold shrD at e
  split at e
  · split at e
    · rename_i hc; cases e; exact ⟨_, _, rfl, rfl, hc, rfl, rfl⟩
    · cases e
  · cases e
theorem opd_and : OpD X (binaryOp .BitAnd) andD := opd_int0 op_and fun d1 d2 S d S' e => by
  unfold andD at e
  split at e
  · cases e; exact ⟨_, _, rfl, rfl, rfl, rfl⟩
  · cases e
theorem opd_or : OpD X (binaryOp .BitOr) orD := opd_int0 op_or fun d1 d2 S d S' e => by
  unfold orD at e
  split at e
  · cases e; exact ⟨_, _, rfl, rfl, rfl, rfl⟩
  · cases e
theorem opd_xor : OpD X (binaryOp .BitXor) xorD := opd_int0 op_xor fun d1 d2 S d S' e => by
  unfold xorD at e
  split at e
  · cases e; exact ⟨_, _, rfl, rfl, rfl, rfl⟩
  · cases e
theorem und_neg : UnD X (unaryOp .USub) negD := by
  intro pins s σ H x v Q I rx hh
  obtain ⟨o, d1, S, d, S', rfl, r1, rs, e, q⟩ := hh
  unfold negD at e
  split at e
  · cases e
    cases r1
    exact un_neg pins s σ _ _ v Q I rx ⟨_, rfl, q o _ .refl rs (.int _)⟩
  · cases e

/-! ### == and in -/
theorem mapO_cons {α β : Type} {f : α → Option β} {a : α} {r : List α} {ys : List β} (h : mapO f (a :: r) = some ys) : ∃ b bs, f a = some b ∧ mapO f r = some bs ∧ ys = b :: bs := by
  unfold mapO at h
  split at h
  · rename_i b bs e1 e2
    exact ⟨b, bs, e1, e2, (Option.some.inj h).symm⟩
  · cases h
theorem snapAll_ok {K : PySem.W.Frag} {mw : MW} {o : Wd} {f : D → Option PyData} (hf : ∀ d v p, RD K mw o d v → f d = some p → Dp K o.H v p) : ∀ {ds : List D} {vs : List V} {ps : List PyData}, RDs K mw o ds vs → mapO f ds = some ps → DpAll K o.H vs ps
  | _, _, _, .nil, e => by cases e; exact .nil
  | _, _, _, .cons r t, e => by
    obtain ⟨b, bs, e1, e2, rfl⟩ := mapO_cons e
    exact .cons (hf _ _ _ r e1) (snapAll_ok hf t e2)
theorem snap_ok {K : PySem.W.Frag} {mw : MW} {o : Wd} {S : Sto} (rs : RS K mw o S) : ∀ (n : Nat) (d : D) (v : V) (p : PyData), RD K mw o d v → snap S n d = some p → Dp K o.H v p := by
  intro n
  induction n with
  | zero =>
    intro d v p r e
    cases r <;> first | (cases e; constructor) | cases e
  | succ n ih =>
    intro d v p r e
    cases r with
    | non => cases e; constructor
    | bl b => cases e; constructor
    | int i => cases e; constructor
    | str x => cases e; constructor
    | tup h q =>
      obtain ⟨ps, e1, rfl⟩ := Option.map_eq_some_iff.mp (show (mapO (snap S n) _).map PyData.tuple = some p from e)
      exact .tup h (snapAll_ok ih q e1)
    | fz h q =>
      obtain ⟨ps, e1, rfl⟩ := Option.map_eq_some_iff.mp (show (mapO (snap S n) _).map PyData.list = some p from e)
      exact .lst h.sq (snapAll_ok ih q e1)
    | @loc k a hk =>
      have e : (match lstAt S k with | some ds => (mapO (snap S n) ds).map PyData.list | none => none) = some p := e
      split at e
      · rename_i ds hl
        obtain ⟨ps, e1, rfl⟩ := Option.map_eq_some_iff.mp e
        obtain ⟨vs, h1, q⟩ := rs.lst hk hl
        exact .lst (SqL.of h1) (snapAll_ok ih q e1)
      · cases e
    | gl _ => cases e
    | ty _ => cases e
theorem eqO_ok {K : PySem.W.Frag} {mw : MW} {o : Wd} {S : Sto} {d1 d2 : D} {v1 v2 : V} {b : Bool} (rs : RS K mw o S) (r1 : RD K mw o d1 v1) (r2 : RD K mw o d2 v2) (e : eqO S d1 d2 = some b) :
    ∃ p q, Dp K o.H v1 p ∧ Dp K o.H v2 q ∧ SeqAt.shaped p = true ∧ SeqAt.shaped q = true ∧ b = PyData.eqv p q := by
  unfold eqO at e
  split at e
  · rename_i p q e1 e2
    split at e
    · rename_i hs
      exact ⟨p, q, snap_ok rs _ _ _ _ r1 e1, snap_ok rs _ _ _ _ r2 e2, hs.1, hs.2, (Option.some.inj e).symm⟩
    · cases e
  · cases e
theorem opd_eq (hu : X.A.units + 64 < cLine) : OpD X (compareOp .Eq) eqD := by
  intro pins s σ H x y v u Q I rx ry hh
  obtain ⟨o, d1, d2, S, d, S', rfl, r1, r2, rs, e, q⟩ := hh
  obtain ⟨b, e1, e2⟩ := Option.map_eq_some_iff.mp (show (eqO S d1 d2).map (fun b => (D.bl b, S)) = some (d, S') from e)
  cases e2
  obtain ⟨p, p', h1, h2, h3, h4, rfl⟩ := eqO_ok rs r1 r2 e1
  exact op_eqD hu pins s σ _ _ _ v u Q I rx ry ⟨p, p', h1, h2, h3, h4, q o _ .refl rs (.bl _)⟩
theorem opd_ne (hu : X.A.units + 64 < cLine) : OpD X (compareOp .NotEq) neD := by
  intro pins s σ H x y v u Q I rx ry hh
  obtain ⟨o, d1, d2, S, d, S', rfl, r1, r2, rs, e, q⟩ := hh
  obtain ⟨b, e1, e2⟩ := Option.map_eq_some_iff.mp (show (eqO S d1 d2).map (fun b => (D.bl (!b), S)) = some (d, S') from e)
  cases e2
  obtain ⟨p, p', h1, h2, h3, h4, rfl⟩ := eqO_ok rs r1 r2 e1
  exact op_neD hu pins s σ _ _ _ v u Q I rx ry ⟨p, p', h1, h2, h3, h4, q o _ .refl rs (.bl _)⟩
theorem inO_ok {K : PySem.W.Frag} {mw : MW} {o : Wd} {S : Sto} {d1 d2 : D} {v1 v2 : V} {b : Bool} (rs : RS K mw o S) (r1 : RD K mw o d1 v1) (r2 : RD K mw o d2 v2) (e : inO S d1 d2 = some b) :
    ∃ p q, Dp K o.H v1 p ∧ SeqAt.shaped p = true ∧ b = (q.any fun z => PyData.eqv z p) ∧ ((Dp K o.H v2 (.list q) ∧ SeqAt.shaped (.list q) = true) ∨ (Dp K o.H v2 (.tuple q) ∧ SeqAt.shaped (.tuple q) = true)) := by
  unfold inO at e
  split at e
  · rename_i p q e1 e2
    split at e
    · rename_i hs
      exact ⟨p, q, snap_ok rs _ _ _ _ r1 e1, hs.1, (Option.some.inj e).symm, .inl ⟨snap_ok rs _ _ _ _ r2 e2, hs.2⟩⟩
    · cases e
  · rename_i p q e1 e2
    split at e
    · rename_i hs
      exact ⟨p, q, snap_ok rs _ _ _ _ r1 e1, hs.1, (Option.some.inj e).symm, .inr ⟨snap_ok rs _ _ _ _ r2 e2, hs.2⟩⟩
    · cases e
  · cases e
theorem opd_in (hu : X.A.units + 65 < cLine) : OpD X (compareOp .In) inD := by
  intro pins s σ H x y v u Q I rx ry hh
  obtain ⟨o, d1, d2, S, d, S', rfl, r1, r2, rs, e, q⟩ := hh
  obtain ⟨b, e1, e2⟩ := Option.map_eq_some_iff.mp (show (inO S d1 d2).map (fun b => (D.bl b, S)) = some (d, S') from e)
  cases e2
  obtain ⟨p, p', h1, h3, rfl, hq⟩ := inO_ok rs r1 r2 e1
  rcases hq with ⟨h2, h4⟩ | ⟨h2, h4⟩
  · exact op_inD hu pins s σ _ _ _ v u Q I rx ry ⟨p, p', h1, h2, h3, h4, q o _ .refl rs (.bl _)⟩
  · obtain ⟨_, w1⟩ := Dp.reads I p x v h1 rx
    obtain ⟨_, w2⟩ := Dp.reads I (.tuple p') y u h2 ry
    exact SeqAt.in_tuple_reads w2 w1 (SeqAt.canLay_of_shaped h4) (SeqAt.canLay_of_shaped h3) (room_in_shaped h3 hu) ⟨.bl _, o.H, I, rfl, q o _ .refl rs (.bl _)⟩
theorem opd_notIn (hu : X.A.units + 65 < cLine) : OpD X (compareOp .NotIn) notInD := by
  intro pins s σ H x y v u Q I rx ry hh
  obtain ⟨o, d1, d2, S, d, S', rfl, r1, r2, rs, e, q⟩ := hh
  obtain ⟨b, e1, e2⟩ := Option.map_eq_some_iff.mp (show (inO S d1 d2).map (fun b => (D.bl (!b), S)) = some (d, S') from e)
  cases e2
  obtain ⟨p, p', h1, h3, rfl, hq⟩ := inO_ok rs r1 r2 e1
  rcases hq with ⟨h2, h4⟩ | ⟨h2, h4⟩
  · exact op_notInD hu pins s σ _ _ _ v u Q I rx ry ⟨p, p', h1, h2, h3, h4, q o _ .refl rs (.bl _)⟩
  · obtain ⟨_, w1⟩ := Dp.reads I p x v h1 rx
    obtain ⟨_, w2⟩ := Dp.reads I (.tuple p') y u h2 ry
    exact SeqAt.notIn_tuple_reads w2 w1 (SeqAt.canLay_of_shaped h4) (SeqAt.canLay_of_shaped h3) (room_in_shaped h3 hu) ⟨.bl _, o.H, I, rfl, q o _ .refl rs (.bl _)⟩
theorem opd_is : OpD X (compareOp .Is) isD := by
  intro pins s σ H x y v u Q I rx ry hh
  obtain ⟨o, d1, d2, S, d, S', rfl, r1, r2, rs, e, q⟩ := hh
  unfold isD at e
  split at e
  · cases e
    cases r2
    refine op_isN pins s σ _ _ _ v u Q I rx ry ⟨rfl, ?_⟩
    rw [r1.non_iff]
    exact q o _ .refl rs (.bl _)
  · cases e
theorem opd_isNot : OpD X (compareOp .IsNot) isNotD := by
  intro pins s σ H x y v u Q I rx ry hh
  obtain ⟨o, d1, d2, S, d, S', rfl, r1, r2, rs, e, q⟩ := hh
  unfold isNotD at e
  split at e
  · cases e
    cases r2
    refine op_notN pins s σ _ _ _ v u Q I rx ry ⟨rfl, ?_⟩
    rw [r1.non_iff]
    exact q o _ .refl rs (.bl _)
  · cases e
end
end PV

set_option Elab.async false
set_option linter.all false
set_option maxRecDepth 100000
set_option maxHeartbeats 3999000
namespace PV
open L2 PyProof.Rows PySem PySem.Spec

/-! ### order -/
inductive Oc where
  | lt | le | gt | ge
def Oc.i : Oc → Int → Int → Bool
  | .lt, i, j => decide (i < j)
  | .le, i, j => decide (i ≤ j)
  | .gt, i, j => decide (j < i)
  | .ge, i, j => decide (j ≤ i)
def Oc.n : Oc → Nat → Nat → Bool
  | .lt, i, j => decide (i < j)
  | .le, i, j => decide (i ≤ j)
  | .gt, i, j => decide (i > j)
  | .ge, i, j => decide (i ≥ j)
def Oc.c : Oc → CmpOp
  | .lt => .Lt
  | .le => .LtE
  | .gt => .Gt
  | .ge => .GtE
def ordL (op : Oc) (f : PyData → PyData → Option Bool) : List PyData → List PyData → Option Bool
  | x :: xs, y :: ys => match ordL op f xs ys with
    | none => none
    | some b => if PyData.eqv x y = true then some b else f x y
  | xs, ys => some (op.n xs.length ys.length)
def ordP (op : Oc) : Nat → PyData → PyData → Option Bool
  | _, .int i, .int j => some (op.i i j)
  | n + 1, .tuple xs, .tuple ys => ordL op (ordP op n) xs ys
  | _, _, _ => none
def ordO (op : Oc) (S : Sto) (d1 d2 : D) : Option Bool := match snap S deep d1, snap S deep d2 with
  | some a, some b => if SeqAt.shaped a = true ∧ SeqAt.shaped b = true then ordP op deep a b else none
  | _, _ => none
def ordD (op : Oc) (d1 d2 : D) (S : Sto) : PR := match d1, d2 with
  | .int i, .int j => some (.bl (op.i i j), S)
  | a, b => (ordO op S a b).map fun r => (.bl r, S)
theorem Oc.n_succ (op : Oc) (i j : Nat) : op.n (i + 1) (j + 1) = op.n i j := by
  cases op <;> simp [Oc.n]
theorem lex_ord (op : Oc) (f : PyData → PyData → Option Bool) (e r : Nat → Bool) : ∀ (xs ys : List PyData) (b : Bool) (i : Nat), ordL op f xs ys = some b →
    (∀ j x y, xs[j]? = some x → ys[j]? = some y → e (i + j) = PyData.eqv x y ∧ (PyData.eqv x y = false → r (i + j) = (f x y).getD false)) →
    Ob.lexAt e r (op.n xs.length ys.length) i (min xs.length ys.length) = b
  | [], ys, b, i, h, _ => by
    cases ys with
    | nil => cases h; rfl
    | cons y ys => cases h; simp [Ob.lexAt]
  | x :: xs, [], b, i, h, _ => by cases h; simp [Ob.lexAt]
  | x :: xs, y :: ys, b, i, h, hj => by
    unfold ordL at h
    split at h
    · cases h
    · rename_i c hc
      rw [List.length_cons, List.length_cons, op.n_succ, Nat.add_min_add_right, Ob.lexAt_succ]
      obtain ⟨h1, h2⟩ := hj 0 x y rfl rfl
      rw [Nat.add_zero] at h1 h2
      have ih := lex_ord op f e r xs ys c (i + 1) hc (fun j x y a b => by
        have := hj (j + 1) x y (by simpa using a) (by simpa using b)
        rw [show i + 1 + j = i + (j + 1) by omega]
        exact this)
      rw [h1]
      split at h
      · rename_i he
        rw [if_pos he, ih]
        exact Option.some.inj h
      · rename_i he
        rw [if_neg he, h2 (by simpa using he), h]
        rfl
theorem ordL_all (op : Oc) (f : PyData → PyData → Option Bool) : ∀ (xs ys : List PyData) (b : Bool), ordL op f xs ys = some b → ∀ (j : Nat) (x y : PyData), xs[j]? = some x → ys[j]? = some y → PyData.eqv x y = false → ∃ c, f x y = some c
  | [], ys, b, _, j, x, y, hx, _, _ => by simp at hx
  | _ :: _, [], b, _, j, x, y, _, hy, _ => by simp at hy
  | x :: xs, y :: ys, b, h, j, x', y', hx, hy, he => by
    unfold ordL at h
    split at h
    · cases h
    · rename_i c hc
      cases j with
      | zero =>
        simp at hx hy
        subst hx hy
        rw [if_neg (by rw [he]; exact Bool.false_ne_true)] at h
        exact ⟨b, h⟩
      | succ j => exact ordL_all op f xs ys c hc j x' y' (by simpa using hx) (by simpa using hy) he
theorem depth_get : ∀ {xs : List PyData} {j : Nat} {x : PyData}, xs[j]? = some x → x.depth ≤ PyData.depthAll xs
  | [], j, x, h => by simp at h
  | y :: ys, 0, x, h => by simp at h; subst h; simp only [PyData.depthAll]; omega
  | y :: ys, j + 1, x, h => by
    have := depth_get (xs := ys) (j := j) (x := x) (by simpa using h)
    simp only [PyData.depthAll]; omega
theorem lay_get : ∀ {xs : List PyData} {j : Nat} {x : PyData}, PyData.canLayAll0 xs = true → xs[j]? = some x → x.canLay0 = true
  | [], j, x, _, h => by simp at h
  | y :: ys, 0, x, hl, h => by
    simp at h; subst h
    simp only [PyData.canLayAll0, Bool.and_eq_true] at hl
    exact hl.1
  | y :: ys, j + 1, x, hl, h => by
    simp only [PyData.canLayAll0, Bool.and_eq_true] at hl
    exact lay_get (xs := ys) (j := j) hl.2 (by simpa using h)
theorem DpAll.get {K : PySem.W.Frag} {H : Hp} {vs : List V} {ps : List PyData} {i : Nat} {v : V} (h : DpAll K H vs ps) (e : vs[i]? = some v) : ∃ p, ps[i]? = some p ∧ Dp K H v p := by
  induction i generalizing vs ps with
  | zero =>
    cases h with
    | nil => cases e
    | cons r t => cases e; exact ⟨_, rfl, r⟩
  | succ n ih =>
    cases h with
    | nil => cases e
    | cons r t => exact ih t e
theorem DpAll.length {K : PySem.W.Frag} {H : Hp} : ∀ {vs : List V} {ps : List PyData}, DpAll K H vs ps → vs.length = ps.length
  | _, _, .nil => rfl
  | _, _, .cons _ t => by rw [List.length_cons, List.length_cons, DpAll.length t]
theorem Vals.get2 {xs : List V} {us : List Value} {i : Nat} {u : Value} (h : Vals xs us) (e : us[i]? = some u) : ∃ x, xs[i]? = some x ∧ RelV x u := by
  induction i generalizing xs us with
  | zero =>
    cases h with
    | nil => cases e
    | cons r t => cases e; exact ⟨_, rfl, r⟩
  | succ n ih =>
    cases h with
    | nil => cases e
    | cons r t => exact ih t e
section
variable {X : Cx} {s : Shared} {H : Hp} {σ : L2.St} {pins : List (Addr × Obj)}
theorem rc_int (op : Oc) {A : Around} {i j : Int} {t u : Tok} : Ob.RcOp op.c A s (.int i t) (.int j u) (op.i i j) := by
  cases op
  · exact Ob.RcOp.lt_int _ _ _ _
  · exact Ob.RcOp.le_int _ _ _ _
  · exact Ob.RcOp.gt_int _ _ _ _
  · exact Ob.RcOp.ge_int _ _ _ _
theorem rc_tup (op : Oc) {A : Around} {l b : Addr} {items items2 : Array Value} {e r : Nat → Bool} (hl : s.heap.IsTuple l items) (hb : s.heap.IsTuple b items2) (hu : A.units < cLine)
    (he : ∀ j (h1 : j < items.size) (h2 : j < items2.size), SeqAt.EqAt A.in1 s items[j] items2[j] (e j))
    (hr : ∀ j (h1 : j < items.size) (h2 : j < items2.size), e j = false → Ob.RcOp op.c A.in1 s items[j] items2[j] (r j)) :
    Ob.RcOp op.c A s (.ref l) (.ref b) (Ob.lexAt e r (op.n items.size items2.size) 0 (min items.size items2.size)) := by
  cases op
  · exact Ob.RcOp.tuples_lt hl hb hu he hr
  · exact Ob.RcOp.tuples_le hl hb hu he hr
  · exact Ob.RcOp.tuples_gt hl hb hu he hr
  · exact Ob.RcOp.tuples_ge hl hb hu he hr
theorem ord_ok (I : Inv X pins σ H s) (op : Oc) : ∀ (n : Nat) (p q : PyData) (x y : V) (v u : Value) (b : Bool) (A : Around), Dp X.K H x p → Dp X.K H y q → RelV x v → RelV y u → p.canLay0 = true → q.canLay0 = true → A.units + p.depth < cLine →
    ordP op n p q = some b → Ob.RcOp op.c A s v u b := by
  intro n
  induction n with
  | zero =>
    intro p q x y v u b A hp hq rx ry lp lq hu h
    cases hp with
    | int i =>
      cases hq with
      | int j =>
        obtain ⟨t, rfl⟩ := rx
        obtain ⟨t', rfl⟩ := ry
        cases h
        exact rc_int op
      | _ => simp [ordP] at h
    | _ => cases hq <;> simp [ordP] at h
  | succ n ih =>
    intro p q x y v u b A hp hq rx ry lp lq hu h
    cases hp with
    | int i =>
      cases hq with
      | int j =>
        obtain ⟨t, rfl⟩ := rx
        obtain ⟨t', rfl⟩ := ry
        cases h
        exact rc_int op
      | _ => simp [ordP] at h
    | @tup a vs xs h1 d1 =>
      cases hq with
      | @tup a2 vs2 ys h2 d2 =>
        have h : ordL op (ordP op n) xs ys = some b := h
        cases rx
        cases ry
        obtain ⟨i1, r1, p1, _⟩ := I.tuple h1
        obtain ⟨i2, r2, p2, _⟩ := I.tuple h2
        have l1 : i1.toArray.size = xs.length := by rw [List.size_toArray, ← r1.length, DpAll.length d1]
        have l2 : i2.toArray.size = ys.length := by rw [List.size_toArray, ← r2.length, DpAll.length d2]
        have lp : PyData.canLayAll0 xs = true := by simpa only [PyData.canLay0] using lp
        have lq : PyData.canLayAll0 ys = true := by simpa only [PyData.canLay0] using lq
        have hd : A.units + (PyData.depthAll xs + 1) < cLine := by simpa only [PyData.depth] using hu
        have hit : ∀ j (z1 : j < i1.toArray.size) (z2 : j < i2.toArray.size), ∃ x' y' px py, xs[j]? = some px ∧ ys[j]? = some py ∧ Dp X.K H x' px ∧ Dp X.K H y' py ∧ RelV x' i1.toArray[j] ∧ RelV y' i2.toArray[j] := fun j z1 z2 => by
          obtain ⟨x', e1, rx⟩ := Vals.get2 r1 (show i1[j]? = some i1.toArray[j] by rw [List.getElem_toArray]; exact List.getElem?_eq_getElem _)
          obtain ⟨y', e2, ry⟩ := Vals.get2 r2 (show i2[j]? = some i2.toArray[j] by rw [List.getElem_toArray]; exact List.getElem?_eq_getElem _)
          obtain ⟨px, e3, q3⟩ := DpAll.get d1 e1
          obtain ⟨py, e4, q4⟩ := DpAll.get d2 e2
          exact ⟨x', y', px, py, e3, e4, q3, q4, rx, ry⟩
        have R := rc_tup op (A := A) (e := fun j => PyData.eqv (xs.getD j .none) (ys.getD j .none)) (r := fun j => (ordP op n (xs.getD j .none) (ys.getD j .none)).getD false) p1 p2 (by omega)
          (fun j z1 z2 => by
            obtain ⟨x', y', px, py, e1, e2, q1, q2, rx, ry⟩ := hit j z1 z2
            obtain ⟨as, g1⟩ := Dp.reads I px x' _ q1 rx
            obtain ⟨bs, g2⟩ := Dp.reads I py y' _ q2 ry
            have k1 := depth_get e1
            rw [List.getD_eq_getElem?_getD, List.getD_eq_getElem?_getD, e1, e2]
            refine SeqAt.eqAt_reads px py A.in1 s _ _ as bs g1 g2 (lay_get lp e1) (lay_get lq e2) ?_
            have : min px.depth py.depth ≤ px.depth := Nat.min_le_left _ _
            show A.units + 1 + min px.depth py.depth < cLine
            omega)
          (fun j z1 z2 he => by
            obtain ⟨x', y', px, py, e1, e2, q1, q2, rx, ry⟩ := hit j z1 z2
            have k1 := depth_get e1
            rw [List.getD_eq_getElem?_getD, List.getD_eq_getElem?_getD, e1, e2] at he ⊢
            obtain ⟨c, hc⟩ := ordL_all op _ xs ys b h j px py e1 e2 he
            rw [Option.getD_some, Option.getD_some, hc]
            refine ih px py x' y' _ _ c A.in1 q1 q2 rx ry (lay_get lp e1) (lay_get lq e2) ?_ hc
            show A.units + 1 + px.depth < cLine
            omega)
        rw [l1, l2] at R
        rw [lex_ord op (ordP op n) _ _ xs ys b 0 h (fun j px py e1 e2 => by
          rw [Nat.zero_add, List.getD_eq_getElem?_getD, List.getD_eq_getElem?_getD, e1, e2]
          exact ⟨rfl, fun _ => rfl⟩)] at R
        exact R
      | _ => simp [ordP] at h
    | _ => cases hq <;> simp [ordP] at h
theorem opd_ord (op : Oc) (hu : X.A.units + 64 < cLine) : OpD X (compareOp op.c) (ordD op) := by
  intro pins s σ H x y v u Q I rx ry hh
  obtain ⟨o, d1, d2, S, d, S', rfl, r1, r2, rs, e, q⟩ := hh
  unfold ordD at e
  split at e
  · cases e
    cases r1
    cases r2
    obtain ⟨t, rfl⟩ := rx
    obtain ⟨t', rfl⟩ := ry
    have R := rc_int (s := s) op (A := X.A) (i := _) (j := _) (t := t) (u := t') X.prog X.w X.xe (EP X pins σ Q) ⟨.bl _, o.H, I, rfl, q o _ .refl rs (.bl _)⟩
    cases op <;> exact R
  · obtain ⟨b, e1, e2⟩ := Option.map_eq_some_iff.mp e
    cases e2
    unfold ordO at e1
    split at e1
    · rename_i p p' g1 g2
      split at e1
      · rename_i hs
        have h1 := snap_ok rs _ _ _ _ r1 g1
        have h2 := snap_ok rs _ _ _ _ r2 g2
        have hd := SeqAt.depth_of_shaped hs.1
        have R := ord_ok I op deep p p' x y v u b X.A h1 h2 rx ry (SeqAt.canLay_of_shaped hs.1) (SeqAt.canLay_of_shaped hs.2) (by omega) e1 X.prog X.w X.xe (EP X pins σ Q) ⟨.bl _, o.H, I, rfl, q o _ .refl rs (.bl _)⟩
        cases op <;> exact R
      · cases e1
    · cases e1

/-! ### items -/
def ixD (d1 d2 : D) (S : Sto) : PR := match d2 with
  | .int i => (match seqOf S d1 with
    | some ds => (atI ds i).map fun d => (d, S)
    | none => (match d1 with
      | .str z => if z.length ≤ sizeLine then (atI z.cps.toList i).map fun c => (.str ⟨#[c]⟩, S) else none
      | _ => none))
  | _ => none
def rDI (K : PySem.W.Frag) (mw : MW) (g : D → D → Sto → PR) : R2 := rDD K mw g
theorem atI_rel {K : PySem.W.Frag} {mw : MW} {o : Wd} {ds : List D} {vs : List V} {i : Int} {d : D} (r : RDs K mw o ds vs) (h : atI ds i = some d) : ∃ v, atI vs i = some v ∧ RD K mw o d v := by
  unfold atI at h ⊢
  rw [← r.length]
  cases hx : ixN ds.length i with
  | none => rw [hx] at h; cases h
  | some j => rw [hx] at h; exact r.get h
theorem ixd_seq : IxR X (rDD X.K X.mw ixD) := by
  intro value slice pins s σ H x y v u Q I rx ry hh hsl
  obtain ⟨o, d1, d2, S, d, S', rfl, r1, r2, rs, e, q⟩ := hh
  unfold ixD at e
  split at e
  · cases r2
    split at e
    · rename_i ds hs
      obtain ⟨d', e1, e2⟩ := Option.map_eq_some_iff.mp e
      cases e2
      obtain ⟨a, vs, rfl, p, hsq⟩ := r1.seq rs hs
      obtain ⟨w, hw, rw'⟩ := atI_rel p e1
      rcases hsq with h1 | h1
      · exact ix_list value slice pins s σ _ _ _ v u Q I rx ry ⟨a, vs, _, w, rfl, rfl, h1, hw, q o _ .refl rs rw'⟩ hsl
      · exact ix_tup value slice pins s σ _ _ _ v u Q I rx ry ⟨a, vs, _, w, rfl, rfl, h1, hw, q o _ .refl rs rw'⟩ hsl
    · split at e
      · split at e
        · rename_i hz
          obtain ⟨c, e1, e2⟩ := Option.map_eq_some_iff.mp e
          cases e2
          cases r1
          exact ix_str value slice pins s σ _ _ _ v u Q I rx ry ⟨_, _, c, rfl, rfl, hz, e1, q o _ .refl rs (.str _)⟩ hsl
        · cases e
      · cases e
  · cases e
/-! ### slices -/
def cutD (xs : List D) (lo hi : Option Int) : List D := (xs.drop (HT.sIx xs.length 0 lo)).take (HT.sIx xs.length xs.length hi - HT.sIx xs.length 0 lo)
def slD (d : D) (lo hi : Option Int) (S : Sto) : PR := match d with
  | .tup ds => some (.tup (cutD ds lo hi), S)
  | .str z => none
  | a => (match lisOf S a with
    | some ds => some (.loc S.length, S ++ [.lst (cutD ds lo hi)])
    | none => none)
abbrev FO := Env → Sto → Out (Option Int)
def oNone : FO := fun _ S => .ok none S
def oSome (fe : FE) : FO := fun env S => (fe env S).bind fun d S1 => match d with
  | .int i => .ok (some i) S1
  | _ => .stk
def eSl (fa : FE) (fl fh : FO) : FE := fun env S => (fa env S).bind fun d S1 => (fl env S1).bind fun l S2 => (fh env S2).bind fun h S3 => lift (slD d l h S3)
def tOi (K : PySem.W.Frag) (mw : MW) (W : WX) (f : FO) : TO := fun σ H Q => ∃ env S o, At K mw env S o σ H ∧ Post K mw (wx K mw W σ) (fun i _ o' => Q i o'.H) o (f env S)
theorem cut_rel {K : PySem.W.Frag} {mw : MW} {o : Wd} {ds : List D} {vs : List V} {lo hi : Option Int} (r : RDs K mw o ds vs) : RDs K mw o (cutD ds lo hi) (cutV vs lo hi) := by
  unfold cutD cutV
  rw [← r.length]
  exact (r.drop _).take _
theorem d_onone {W : WX} : PO X none (tOi X.K X.mw W oNone) := by
  refine ⟨fun pins s σ H Q I h => po_none.run pins s σ H Q I ?_⟩
  obtain ⟨env, S, o, ⟨rfl, re, rs⟩, p⟩ := h
  exact p.here rs
theorem d_osome {a : Expr} {fa : FE} {W : WX} (ha : PE X a (tE X.K X.mw W fa)) : PO X (some a) (tOi X.K X.mw W (oSome fa)) := by
  refine ⟨fun pins s σ H Q I h => (po_some ha).run pins s σ H Q I ?_⟩
  obtain ⟨env, S, o, ⟨rfl, re, rs⟩, p⟩ := h
  refine ⟨env, S, o, ⟨rfl, re, rs⟩, (Post.bind p).imp fun d1 S1 o1 l1 rs1 p1 v1 r1 => ?_⟩
  cases r1 with
  | int i => exact ⟨i, rfl, p1.here rs1⟩
  | _ => exact False.elim p1
def rSlD (K : PySem.W.Frag) (mw : MW) : V → Option Int → Option Int → Hp → VK → Prop := fun x lo hi H Q =>
  ∃ o d1 S d S', o.H = H ∧ RD K mw o d1 x ∧ RS K mw o S ∧ slD d1 lo hi S = some (d, S') ∧ ∀ o' v, Le K o o' → RS K mw o' S' → RD K mw o' d v → Q v o'.H
theorem cut_whole {xs : List V} {lo hi : Option Int} (h : HT.sIx xs.length 0 lo = 0 ∧ HT.sIx xs.length xs.length hi = xs.length) : cutV xs lo hi = xs := by
  unfold cutV
  rw [h.1, h.2]
  simp
theorem sld_ok : SlR X (rSlD X.K X.mw) := by
  intro pins s σ H x v vl vu lo hi sl Q I rx hs pl pu hh
  obtain ⟨o, d1, S, d, S', rfl, r1, rs, e, q⟩ := hh
  unfold slD at e
  split at e
  · cases e
    cases r1 with
    | @tup a ds vs h1 p1 =>
    refine sl_tupA pins s σ _ _ v vl vu lo hi sl Q I rx hs pl pu ⟨a, vs, rfl, h1, fun hw => ?_, fun hw p hp => ?_⟩
    · refine q o _ .refl rs (.tup h1 ?_)
      have := cut_rel (lo := lo) (hi := hi) p1
      rw [cut_whole hw] at this
      exact this
    · obtain ⟨a1, a2, a3⟩ := rs.newTup hp (cut_rel (lo := lo) (hi := hi) p1)
      exact q _ _ a1 a2 a3
  · cases e
  · split at e
    · rename_i ds hl
      cases e
      obtain ⟨a, vs, rfl, p1, h1⟩ := r1.lis rs hl
      refine sl_list pins s σ _ _ v vl vu lo hi sl Q I rx hs pl pu ⟨a, vs, rfl, h1, fun p hp => ?_⟩
      obtain ⟨a1, a2, a3⟩ := rs.newLst hp (cut_rel (lo := lo) (hi := hi) p1)
      exact q _ _ a1 a2 a3
    · cases e
theorem d_sl {a : Expr} {lo hi : Option Expr} {fa : FE} {fl fh : FO} {W : WX} {p2 pos : Pos} (ha : PE X a (tE X.K X.mw W fa)) (hl : PO X lo (tOi X.K X.mw W fl)) (hh : PO X hi (tOi X.K X.mw W fh)) :
    PE X (.Subscript a (.Slice lo hi none p2) pos) (tE X.K X.mw W (eSl fa fl fh)) := by
  refine PE.imp (pe_slice sld_ok ha hl hh) fun σ H Q h => ?_
  obtain ⟨env, S, o, ⟨rfl, re, rs⟩, p⟩ := h
  refine ⟨env, S, o, ⟨rfl, re, rs⟩, (Post.bind p).imp fun d1 S1 o1 l1 rs1 p1 v1 r1 => ?_⟩
  refine ⟨env, S1, o1, ⟨rfl, re.up l1, rs1⟩, (Post.bind p1).imp fun i S2 o2 l2 rs2 p2 => ?_⟩
  refine ⟨env, S2, o2, ⟨rfl, re.up (l1.trans l2), rs2⟩, (Post.bind p2).imp fun j S3 o3 l3 rs3 p3 => ?_⟩
  obtain ⟨d, S', e, q⟩ := lift_post p3
  exact ⟨o3, d1, S3, d, S', rfl, r1.up (l2.trans l3), rs3, e, fun o' v l rs r => q o' l rs v r⟩
end
end PV

set_option Elab.async false
set_option linter.all false
set_option maxRecDepth 100000
set_option maxHeartbeats 3999000
namespace PV
open L2 PyProof.Rows PySem PySem.Spec

/-! ### a[::-1] -/
def revD (d : D) (S : Sto) : PR := match d with
  | .tup ds => some (.tup ds.reverse, S)
  | .str z => none
  | a => (match lisOf S a with
    | some ds => some (.loc S.length, S ++ [.lst ds.reverse])
    | none => none)
def kRev2 (d : D) : D → Sto → Out D
  | .int i, S => if i = -1 then lift (revD d S) else .stk
  | _, _ => .stk
def eRev (fa fs : FE) : FE := fun env S => (fa env S).bind fun d S1 => (fs env S1).bind (kRev2 d)
theorem fm_congr {α β : Type} {f g : α → Option β} : ∀ l : List α, (∀ x ∈ l, f x = g x) → l.filterMap f = l.filterMap g
  | [], _ => rfl
  | a :: r, h => by
    rw [List.filterMap_cons, List.filterMap_cons, h a (List.mem_cons_self ..), fm_congr r fun x hx => h x (List.mem_cons_of_mem _ hx)]
section
variable {w : World} {prog : Program} {s : Shared} {A : Around} {E : Value → Shared → Prop}
theorem back_pick {xs : Array Value} : ((List.range xs.size).filterMap fun (m : Nat) => xs[(((xs.size : Int) - 1) + (m : Int) * (-1)).toNat]?).toArray = xs.toList.reverse.toArray := by
  have e : (List.range xs.size).filterMap (fun (m : Nat) => xs[(((xs.size : Int) - 1) + (m : Int) * (-1)).toNat]?) = ((List.range xs.size).map fun k => xs.size - 1 - k).filterMap (xs[·]?) := by
    rw [List.filterMap_map]
    refine fm_congr _ fun m hm => ?_
    have := List.mem_range.mp hm
    rw [show (((xs.size : Int) - 1) + (m : Int) * (-1)).toNat = xs.size - 1 - m by omega]
    rfl
  rw [e, PySem.W.krv_range, List.filterMap_reverse, PySem.W.krv_all]
/-- the places of [::-1] in n items -/
theorem back_places (n : Nat) : (match Builtin.Slice.sliceAdjust none none (-1) (n : Int) with | (lo, hi) => (lo, (-1 : Int), Builtin.Slice.slicePlaces lo hi (-1))) = ((n : Int) - 1, -1, n) := by
  show ((n : Int) - 1, (-1 : Int), Builtin.Slice.slicePlaces ((n : Int) - 1) (-1) (-1)) = _
  have : Builtin.Slice.slicePlaces ((n : Int) - 1) (-1) (-1) = n := by
    simp only [Builtin.Slice.slicePlaces]
    by_cases h : 0 < n <;> simp <;> omega
  rw [this]
theorem back_applied {sl : Addr} {vk : Value} {n : Nat} {Q : Int × Int × Nat → Shared → Prop} (hs : s.heap.IsSliceOf sl .none .none vk) (pk : IsPart vk (some (-1)))
    (h : Q ((n : Int) - 1, -1, n) s) : wpAny (model prog w) A (Builtin.Slice.sliceApplied (.ref sl) (pure (n : Int))) Q E s := by
  have ⟨ob, hob, _, hdb⟩ := hs
  have fld : ∀ {i : Nat} {x : Value} {R : Value → Shared → Prop}, #[Value.none, .none, vk][i]? = some x → R x s → wpAny (model prog w) A (field (.ref sl) i) R E s := fun hx q => wpAny_field hob hdb hx q
  simp only [Builtin.Slice.sliceApplied, Builtin.Slice.sliceFields]
  refine wpAny_bind (wpAny_bind (fld rfl (wpAny_bind (fld rfl (wpAny_bind (fld rfl (wpAny_pure (wpAny_bind (HT.slicePart_ pk ?_))))))))) 
  refine wpAny_bind (HT.slicePart_ .none (wpAny_bind (HT.slicePart_ .none (wpAny_bind (wpAny_pure (wpAny_pure ?_))))))
  exact (show Q (match Builtin.Slice.sliceAdjust none none (-1) (n : Int) with | (lo, hi) => (lo, (-1 : Int), Builtin.Slice.slicePlaces lo hi (-1))) s by rw [back_places]; exact h)
/-- what tuple.__getitem__ does is what t[u] is -/
theorem tup_item {t : Addr} {its : Array Value} {u : Value} {Q : Value → Shared → Prop} (ht : IsTup s.heap t its) (h : wpAny (model prog w) A.in1 (Builtin.«tuple.__getitem__» ⟨[.ref t, u], []⟩) (fun r s' => ∃ x, r = .done (.ret x) ∧ Q x s') E s) :
    wpAny (model prog w) A (getItem (.ref t) u) Q E s := by
  simp only [getItem]
  exact wpAny_holding (wpAny_bind (wpAny_sequenceKey ht.typeIs (by decide) (wpAny_bind (wpAny_callSpecial?_slot ht.typeIs PyProof.Rows.slot_tuple_getitem
    (wpAny_call_entry PyProof.Rows.slot_tuple_getitem ht.typeIs entry_tuple_getitem (wpAny_mono h (fun _ _ ⟨x, e, q⟩ => ⟨x, e, wpAny_pure q⟩) fun _ _ z => z) (args_tuple_getitem _ _))))))
theorem back_tuple {t sl : Addr} {its : Array Value} {vk : Value} {Q : Value → Shared → Prop} (ht : IsTup s.heap t its) (hs : s.heap.IsSliceOf sl .none .none vk) (pk : IsPart vk (some (-1)))
    (h : Q (.ref s.heap.objs.size) { s with heap := s.heap.push { cls := .type "tuple", data := .seq its.toList.reverse.toArray } })
    (hsz : its.size ≤ sizeLine) : wpAny (model prog w) A (getItem (.ref t) (.ref sl)) Q E s := by
  have fits : sizeOk (.seq its.toList.reverse.toArray) := Nat.le_trans (Nat.le_of_eq (by simp)) hsz
  have ⟨ob, hob, hcb, _⟩ := hs
  have isSl : s.TypeIs (.ref sl) "slice" := ⟨ob, hob, hcb⟩
  refine tup_item ht (wpAny_bind (wpAny_of_eq (a := (Value.ref t, [Value.ref sl])) rfl (wpAny_bind (tupleItemsOf_ ht (wpAny_bind (wpAny_typeOf isSl ?_))))))
  rw [if_pos (by decide)]
  refine wpAny_bind (back_applied hs pk ?_)
  have one : (((its.size : Int) - 1) == 0 && (-1 : Int) == 1 && its.size == its.size) = false := by simp
  show wpAny _ _ (if (((its.size : Int) - 1) == 0 && (-1 : Int) == 1 && its.size == its.size) = true then _ else _) _ _ s
  rw [one, back_pick]
  exact wpAny_bind (wpAny_newObj_type (wpAny_pure ⟨_, rfl, h⟩) fits)
end
section
variable {X : Cx}
theorem Vals.back : ∀ {xs : List V} {us : List Value}, Vals xs us → Vals xs.reverse us.reverse
  | _, _, .nil => .nil
  | _, _, .cons r t => by
    simpa using (Vals.back t).append (.cons r .nil)
theorem RDs.back {K : PySem.W.Frag} {mw : MW} {o : Wd} : ∀ {ds : List D} {vs : List V}, RDs K mw o ds vs → RDs K mw o ds.reverse vs.reverse
  | _, _, .nil => .nil
  | _, _, .cons r t => by
    simpa using (RDs.back t).append (.cons r .nil)
/-- what v[::-1] is, once its slice stands at sl -/
def BkR (X : Cx) (r : V → Hp → VK → Prop) : Prop := ∀ {pins s σ H x v vk sl Q} (e ks : Expr) (p2 : Pos), Inv X pins σ H s → RelV x v → s.heap.IsSliceOf sl .none .none vk → IsPart vk (some (-1)) → r x H Q →
  wpAny (model X.prog X.w) X.A (subscriptTail e (.Slice none none (some ks) p2) v (.ref sl)) (EP X pins σ Q) X.xe s
def rBk (K : PySem.W.Frag) (mw : MW) : V → Hp → VK → Prop := fun x H Q =>
  ∃ o d1 S d S', o.H = H ∧ RD K mw o d1 x ∧ RS K mw o S ∧ revD d1 S = some (d, S') ∧ ∀ o' v, Le K o o' → RS K mw o' S' → RD K mw o' d v → Q v o'.H
theorem bk_ok : BkR X (rBk X.K X.mw) := by
  intro pins s σ H x v vk sl Q e' ks p2 I rx hs pk hh
  obtain ⟨o, d1, S, d, S', rfl, r1, rs, e, q⟩ := hh
  unfold revD at e
  split at e
  · cases e
    cases r1 with
    | @tup a ds vs h1 p1 =>
    cases rx
    obtain ⟨its, r, ht, hz⟩ := I.tuple h1
    have hlen : its.toArray.size = vs.length := by rw [List.size_toArray]; exact r.length.symm
    refine tail_any (ops := [.ref a, .ref sl]) ht.typeIs PyProof.Rows.slot_tuple_getitem.lookup (back_tuple ht hs pk ?_ (by rw [hlen]; exact hz)) (by with_unfolding_all rfl)
    obtain ⟨a1, a2, a3⟩ := rs.newTup (I.hok.fresh (Nat.le_refl _)) (RDs.back p1)
    refine ⟨.ref s.heap.objs.size, _, I.laid (t' := s.toks) (o := .tup vs.reverse) (fun b ob q => Heap.get?_push_of_some _ q) (Nat.le_refl _) ?_, rfl, q _ _ a1 a2 a3⟩
    exact ⟨by rw [List.length_reverse]; exact hz, _, Vals.back r, IsTup.new _ _⟩
  · cases e
  · split at e
    · rename_i ds hl
      cases e
      obtain ⟨a, vs, rfl, p1, h1⟩ := r1.lis rs hl
      cases rx
      obtain ⟨its, r, ht, hz⟩ := I.list h1
      have hlen := r.length
      refine tail_any (ops := [.ref a, .ref sl]) ht.isList.typeIs slot_list_getitem.lookup (wpAny_getItem_list_slice ht.isList hs .none .none pk (by decide) ?_ (by rw [List.size_toArray] <;> omega)) (by with_unfolding_all rfl)
      rw [PySem.W.krv_pick]
      obtain ⟨a1, a2, a3⟩ := rs.newLst (I.hok.fresh (Nat.le_refl _)) (RDs.back p1)
      refine ⟨.ref s.heap.objs.size, _, I.laid (t' := s.toks) (o := .lst vs.reverse) (fun b ob q => Heap.get?_push_of_some _ q) (Nat.le_refl _) ?_, rfl, q _ _ a1 a2 a3⟩
      exact ⟨by rw [List.length_reverse]; exact hz, _, 0, Vals.back r, Heap.get?_push_size _ rfl⟩
    · cases e
def tBk (r : V → Hp → VK → Prop) (te : TE) (tk : TO) : TE := fun σ H Q => te σ H fun x H1 => tk σ H1 fun k H2 => k = some (-1) ∧ r x H2 Q
theorem pe_back {r : V → Hp → VK → Prop} {e ks : Expr} {te : TE} {tk : TO} {p2 pos : Pos} (hr : BkR X r) (he : PE X e te) (hk : PO X (some ks) tk) : PE X (.Subscript e (.Slice none none (some ks) p2) pos) (tBk r te tk) := by
  refine ⟨fun pins s σ H Q I h => Subscript_ (thn (he.run pins s σ H _ I h) fun v s1 ⟨x, H1, I1, rx, q1⟩ => wpAny_Slice ?_)⟩
  rw [evalPart_none]
  exact wpAny_pure (wpAny_pure (thn (hk.run pins s1 σ H1 _ I1 q1) fun vk s2 ⟨k, H2, I2, pk, ek, q2⟩ => hr e ks p2 (I2.kept (t' := s2.toks) fun b ob q => Heap.get?_push_of_some _ q) rx (Heap.IsSliceOf.new ..) (ek ▸ pk) q2))
theorem d_rev {a ks : Expr} {fa fs : FE} {W : WX} {p2 pos : Pos} (ha : PE X a (tE X.K X.mw W fa)) (hk : PE X ks (tE X.K X.mw W fs)) : PE X (.Subscript a (.Slice none none (some ks) p2) pos) (tE X.K X.mw W (eRev fa fs)) := by
  refine PE.imp (pe_back bk_ok ha (po_some hk)) fun σ H Q h => ?_
  obtain ⟨env, S, o, ⟨rfl, re, rs⟩, p⟩ := h
  refine ⟨env, S, o, ⟨rfl, re, rs⟩, (Post.bind p).imp fun d1 S1 o1 l1 rs1 p1 v1 r1 => ?_⟩
  refine ⟨env, S1, o1, ⟨rfl, re.up l1, rs1⟩, (Post.bind p1).imp fun d2 S2 o2 l2 rs2 p2 v2 r2 => ?_⟩
  cases r2 with
  | int i =>
    have p2 : Post X.K X.mw _ _ o2 (if i = -1 then lift (revD d1 S2) else .stk) := p2
    split at p2
    · rename_i hi
      subst hi
      obtain ⟨d, S', e, q⟩ := lift_post p2
      exact ⟨-1, rfl, rfl, o2, d1, S2, d, S', rfl, r1.up l2, rs2, e, fun o' v l rs r => q o' l rs v r⟩
    · exact False.elim p2
  | _ => exact False.elim p2
end
end PV

set_option Elab.async false
set_option linter.all false
set_option maxRecDepth 100000
set_option maxHeartbeats 3999000
namespace PV
open L2 PyProof.Rows PySem PySem.Spec

/-! ### keys as data -/
mutual
def pdK : TK → PyData
  | .int i => .int i
  | .str x => .str x
  | .tup ks => .tuple (pdKs ks)
def pdKs : List TK → List PyData
  | [] => []
  | k :: r => pdK k :: pdKs r
end
mutual
theorem pdK_plain : ∀ k : TK, (pdK k).plain = true
  | .int _ => by simp [pdK, PyData.plain]
  | .str _ => by simp [pdK, PyData.plain]
  | .tup ks => by simp [pdK, PyData.plain, pdKs_plain ks]
theorem pdKs_plain : ∀ ks : List TK, PyData.plainAll (pdKs ks) = true
  | [] => by simp [pdKs, PyData.plainAll]
  | k :: r => by simp [pdKs, PyData.plainAll, pdK_plain k, pdKs_plain r]
end
mutual
theorem pdK_inj : ∀ {a b : TK}, pdK a = pdK b → a = b
  | .int i, .int j, h => by simp [pdK] at h; rw [h]
  | .str i, .str j, h => by simp [pdK] at h; rw [h]
  | .tup i, .tup j, h => by simp [pdK] at h; rw [pdKs_inj h]
  | .int _, .str _, h => by simp [pdK] at h
  | .int _, .tup _, h => by simp [pdK] at h
  | .str _, .int _, h => by simp [pdK] at h
  | .str _, .tup _, h => by simp [pdK] at h
  | .tup _, .int _, h => by simp [pdK] at h
  | .tup _, .str _, h => by simp [pdK] at h
theorem pdKs_inj : ∀ {a b : List TK}, pdKs a = pdKs b → a = b
  | [], [], _ => rfl
  | [], _ :: _, h => by simp [pdKs] at h
  | _ :: _, [], h => by simp [pdKs] at h
  | a :: r, b :: s, h => by
    simp [pdKs] at h
    rw [pdK_inj h.1, pdKs_inj h.2]
end
mutual
theorem pdK_eqv : ∀ (a b : TK), PyData.eqv (pdK a) (pdK b) = decide (a = b)
  | .int i, .int j => by
    simp only [pdK, PyData.eqv]
    rw [Bool.eq_iff_iff]
    simp
  | .str i, .str j => by
    simp only [pdK, PyData.eqv]
    rw [Bool.eq_iff_iff]
    simp
  | .tup i, .tup j => by
    simp only [pdK, PyData.eqv, pdKs_eqv i j]
    rw [Bool.eq_iff_iff]
    simp
  | .int _, .str _ => by simp [pdK, PyData.eqv]
  | .int _, .tup _ => by simp [pdK, PyData.eqv]
  | .str _, .int _ => by simp [pdK, PyData.eqv]
  | .str _, .tup _ => by simp [pdK, PyData.eqv]
  | .tup _, .int _ => by simp [pdK, PyData.eqv]
  | .tup _, .str _ => by simp [pdK, PyData.eqv]
theorem pdKs_eqv : ∀ (a b : List TK), PyData.eqvAll (pdKs a) (pdKs b) = decide (a = b)
  | [], [] => by simp [pdKs, PyData.eqvAll]
  | [], _ :: _ => by simp [pdKs, PyData.eqvAll]
  | _ :: _, [] => by simp [pdKs, PyData.eqvAll]
  | a :: r, b :: s => by
    simp only [pdKs, PyData.eqvAll, pdK_eqv a b, pdKs_eqv r s]
    rw [Bool.eq_iff_iff]
    simp
end
mutual
theorem pdK_depth : ∀ k : TK, (pdK k).depth ≤ k.deep
  | .int _ => by simp [pdK, PyData.depth]
  | .str _ => by simp [pdK, PyData.depth]
  | .tup ks => by
    have := pdKs_depth ks
    simp only [pdK, PyData.depth, TK.deep]
    omega
theorem pdKs_depth : ∀ ks : List TK, PyData.depthAll (pdKs ks) ≤ TK.deepAll ks
  | [] => by simp [pdKs, PyData.depthAll]
  | k :: r => by
    have h1 := pdK_depth k
    have h2 := pdKs_depth r
    simp only [pdKs, PyData.depthAll, TK.deepAll]
    omega
end
/-- a value that reads as the key -/
def TkIs (h : Heap) (k : TK) (v : Value) : Prop := ∃ as, Reads h v (pdK k) as
def TksIs (h : Heap) (ks : List TK) (vs : List Value) : Prop := ∃ as, ReadsAll h vs (pdKs ks) as
theorem TkIs.tup {h : Heap} {ks : List TK} {v : Value} (x : TkIs h (.tup ks) v) : ∃ a o items n, v = .ref a ∧ h.get? a = some o ∧ o.cls = .type "tuple" ∧ o.data = .seq items n ∧ TksIs h ks items.toList := by
  obtain ⟨as, r⟩ := x
  simp only [pdK] at r
  cases r with
  | tuple h1 h2 h3 h4 => exact ⟨_, _, _, _, rfl, h1, h2, h3, _, h4⟩
theorem TksIs.cons {h : Heap} {k : TK} {ks : List TK} {vs : List Value} (x : TksIs h (k :: ks) vs) : ∃ v r, vs = v :: r ∧ TkIs h k v ∧ TksIs h ks r := by
  obtain ⟨as, r⟩ := x
  simp only [pdKs] at r
  cases r with
  | cons h1 h2 => exact ⟨_, _, rfl, ⟨_, h1⟩, ⟨_, h2⟩⟩
theorem TksIs.nil {h : Heap} {vs : List Value} (x : TksIs h [] vs) : vs = [] := by
  obtain ⟨as, r⟩ := x
  simp only [pdKs] at r
  cases r
  rfl
mutual
theorem TkIs.keeps {h h' : Heap} {d : Addr} {o : Obj} {es : Array DictEntry} {ep : Nat} (ho : h.get? d = some o) (hd : o.data = .dict es ep) (hs : Heap.SameBut d h h') : ∀ {k : TK} {v : Value}, TkIs h k v → TkIs h' k v
  | .int i, v, ⟨as, r⟩ => by
    simp only [pdK] at r
    cases r
    exact ⟨_, .int _ _⟩
  | .str i, v, ⟨as, r⟩ => by
    simp only [pdK] at r
    cases r
    exact ⟨_, .str _ _⟩
  | .tup ks, v, x => by
    obtain ⟨a, oa, items, n, rfl, h1, h2, h3, h4⟩ := x.tup
    have hne : a ≠ d := by
      rintro rfl
      rw [ho] at h1
      cases h1
      rw [hd] at h3
      exact nomatch h3
    obtain ⟨as, r⟩ := TksIs.keeps ho hd hs h4
    exact ⟨as, .tuple ((hs.2 a hne).trans h1) h2 h3 r⟩
theorem TksIs.keeps {h h' : Heap} {d : Addr} {o : Obj} {es : Array DictEntry} {ep : Nat} (ho : h.get? d = some o) (hd : o.data = .dict es ep) (hs : Heap.SameBut d h h') : ∀ {ks : List TK} {vs : List Value}, TksIs h ks vs → TksIs h' ks vs
  | [], vs, x => by
    rw [x.nil]
    exact ⟨_, .nil⟩
  | k :: ks, vs, x => by
    obtain ⟨v, r, rfl, h1, h2⟩ := x.cons
    obtain ⟨as, q1⟩ := TkIs.keeps ho hd hs h1
    obtain ⟨bs, q2⟩ := TksIs.keeps ho hd hs h2
    exact ⟨_, .cons q1 q2⟩
end
/-! ### the kit's nested keys -/
mutual
def nk : TK → NestedKey
  | .int i => .num i
  | .str x => .text x
  | .tup ks => .tup (nks ks)
def nks : List TK → List NestedKey
  | [] => []
  | k :: r => nk k :: nks r
end
mutual
theorem nk_hash (w : World) : ∀ k : TK, (nk k).hash w = TK.hash w k
  | .int _ => by simp [nk, NestedKey.hash, TK.hash, keyH]
  | .str _ => by simp [nk, NestedKey.hash, TK.hash, keyH]
  | .tup ks => by simp [nk, NestedKey.hash, TK.hash, nks_hash w ks]
theorem nks_hash (w : World) : ∀ ks : List TK, NestedKey.hashes w (nks ks) = TK.hashes w ks
  | [] => by simp [nks, NestedKey.hashes, TK.hashes]
  | k :: r => by simp [nks, NestedKey.hashes, TK.hashes, nk_hash w k, nks_hash w r]
end
mutual
theorem nk_draws : ∀ k : TK, (nk k).draws = k.draws
  | .int _ => by simp [nk, NestedKey.draws, TK.draws]
  | .str _ => by simp [nk, NestedKey.draws, TK.draws]
  | .tup ks => by simp [nk, NestedKey.draws, TK.draws, nks_draws ks]
theorem nks_draws : ∀ ks : List TK, NestedKey.drawsAll (nks ks) = TK.drawsAll ks
  | [] => by simp [nks, NestedKey.drawsAll, TK.drawsAll]
  | k :: r => by simp [nks, NestedKey.drawsAll, TK.drawsAll, nk_draws k, nks_draws r]
end
mutual
theorem nk_depth : ∀ k : TK, (nk k).depth = k.deep
  | .int _ => by simp [nk, NestedKey.depth, TK.deep]
  | .str _ => by simp [nk, NestedKey.depth, TK.deep]
  | .tup ks => by simp [nk, NestedKey.depth, TK.deep, nks_depth ks]
theorem nks_depth : ∀ ks : List TK, NestedKey.depthAll (nks ks) = TK.deepAll ks
  | [] => by simp [nks, NestedKey.depthAll, TK.deepAll]
  | k :: r => by simp [nks, NestedKey.depthAll, TK.deepAll, nk_depth k, nks_depth r]
end
mutual
theorem TkIs.nested {h : Heap} : ∀ {k : TK} {v : Value}, TkIs h k v → NestedIs h (nk k) v
  | .int i, v, ⟨as, r⟩ => by
    simp only [pdK] at r
    cases r
    simpa [nk] using NestedIs.int _ _
  | .str i, v, ⟨as, r⟩ => by
    simp only [pdK] at r
    cases r
    simpa [nk] using NestedIs.text _ _
  | .tup ks, v, x => by
    obtain ⟨a, oa, items, n, rfl, h1, h2, h3, h4⟩ := x.tup
    simpa [nk] using NestedIs.tup h1 h2 h3 (TksIs.nested h4)
theorem TksIs.nested {h : Heap} : ∀ {ks : List TK} {vs : List Value}, TksIs h ks vs → NestedAll h (nks ks) vs
  | [], vs, x => by
    rw [x.nil]
    simpa [nks] using NestedAll.nil
  | k :: ks, vs, x => by
    obtain ⟨v, r, rfl, h1, h2⟩ := x.cons
    simpa [nks] using NestedAll.cons (TkIs.nested h1) (TksIs.nested h2)
end
end PV

set_option Elab.async false
set_option linter.all false
set_option maxRecDepth 100000
set_option maxHeartbeats 3999000
namespace PV
open L2 PyProof.Rows PySem PySem.Spec

/-! ### the kind of keys -/
/-- keys of the store, as a kind: the kit's nested keys, seen through nk -/
def dataKind (prog : Program) (w : World) : HeapKind prog w TK where
  is h k a := TkIs h k (.ref a) ∧ k.deep ≤ 8
  hash := TK.hash w
  draws := TK.draws
  room := (nestedKind prog w).room
  inj := fun ⟨⟨_, r⟩, _⟩ ⟨⟨_, r'⟩, _⟩ => pdK_inj (SeqAt.plain_unique _ _ _ _ _ (pdK_plain _) r r')
  keeps x ho hd hs := ⟨x.1.keeps ho hd hs, x.2⟩
  pyHash {A E s k a Q} hu hk h := (nestedKind prog w).pyHash hu ⟨hk.1.nested, Nat.le_trans (Nat.le_of_eq (nk_depth k)) hk.2⟩ (by
    show Q ((nk k).hash w) { s with toks := s.toks + (nk k).draws }
    rw [nk_hash, nk_draws]
    exact h)
  eqBool {A E s x y a b Q} hu hx hy h := SeqAt.eqAt_plain _ _ A s _ _ _ _ hx.1.choose_spec hy.1.choose_spec (pdK_plain _) (pdK_plain _) (by
    have hu : A.units + 8 < cLine := hu
    have := pdK_depth x
    have := hx.2
    omega) prog w E Q (by rw [pdK_eqv]; exact h)
  quiet {A E s k a Q} hk h := (nestedKind prog w).quiet ⟨hk.1.nested, Nat.le_trans (Nat.le_of_eq (nk_depth k)) hk.2⟩ h

/-! ### dicts of the store -/
mutual
def tkOf : D → Option TK
  | .int i => some (.int i)
  | .str x => some (.str x)
  | .tup ds => (tksOf ds).map .tup
  | _ => none
def tksOf : List D → Option (List TK)
  | [] => some []
  | d :: r => match tkOf d, tksOf r with
    | some k, some ks => some (k :: ks)
    | _, _ => none
end
mutual
theorem tkOf_keyD : ∀ {d : D} {k : TK}, tkOf d = some k → keyD k = d
  | .int i, k, h => by cases h; simp [keyD]
  | .str i, k, h => by cases h; simp [keyD]
  | .tup ds, k, h => by
    simp only [tkOf] at h
    obtain ⟨ks, e, rfl⟩ := Option.map_eq_some_iff.mp h
    simp [keyD, tksOf_keyD e]
  | .non, k, h => by cases h
  | .bl _, k, h => by cases h
  | .loc _, k, h => by cases h
  | .gl _, k, h => by cases h
  | .ty _, k, h => by cases h
  | .fz _, k, h => by cases h
theorem tksOf_keyD : ∀ {ds : List D} {ks : List TK}, tksOf ds = some ks → keyDs ks = ds
  | [], ks, h => by cases h; simp [keyDs]
  | d :: r, ks, h => by
    simp only [tksOf] at h
    split at h
    · rename_i k ks' e1 e2
      cases h
      simp [keyDs, tkOf_keyD e1, tksOf_keyD e2]
    · cases h
end
/-- a key that is a tuple, of few levels -/
def tkT (d : D) : Option TK := match d with
  | .tup ds => (match tkOf (.tup ds) with
    | some k => if k.deep ≤ 8 then some k else none
    | none => none)
  | _ => none
theorem tkT_ok {d : D} {k : TK} (h : tkT d = some k) : keyD k = d ∧ k.deep ≤ 8 ∧ ∃ ds, d = .tup ds := by
  unfold tkT at h
  split at h
  · split at h
    · rename_i k' e
      split at h
      · rename_i hd; cases h; exact ⟨tkOf_keyD e, hd, _, rfl⟩
      · cases h
    · cases h
  · cases h
def keyS : D → Option Key
  | .int i => some (.inl i)
  | .str x => some (.inr x)
  | _ => none
def dval {κ : Type} [DecidableEq κ] (kvs : List (κ × D)) (k : κ) : Option D := (kvs.find? fun p => decide (p.1 = k)).map (·.2)
def dput {κ : Type} [DecidableEq κ] (kvs : List (κ × D)) (k : κ) (d : D) : List (κ × D) := if (dval kvs k).isSome = true then kvs.map (fun p => if p.1 = k then (p.1, d) else p) else kvs ++ [(k, d)]
/-- the dict at n looked into with a key: its value, the store (an empty dict takes the kind of its first key) -/
def dlook (S : Sto) (n : Nat) (d : D) : Option (Option D × Sto) := match S[n]? with
  | some (.dd kvs) => (match tkT d with
    | some k => some (dval kvs k, S)
    | none => none)
  | some (.dk kvs) => (match keyS d with
    | some k => some (dval kvs k, S)
    | none => (match kvs, tkT d with
      | [], some _ => some (none, S.set n (.dd []))
      | _, _ => none))
  | _ => none
def dstore (S : Sto) (n : Nat) (k d : D) : Option Sto := match S[n]? with
  | some (.dd kvs) => (match tkT k with
    | some k => if kvs.length < sizeLine then some (S.set n (.dd (dput kvs k d))) else none
    | none => none)
  | some (.dk kvs) => (match keyS k with
    | some k => if kvs.length < sizeLine then some (S.set n (.dk (dput kvs k d))) else none
    | none => (match kvs, tkT k with
      | [], some k => some (S.set n (.dd (dput [] k d)))
      | _, _ => none))
  | _ => none
def isDc (S : Sto) : D → Option Nat
  | .loc n => (match S[n]? with
    | some (.dd _) => some n
    | some (.dk _) => some n
    | _ => none)
  | _ => none
def inDD (d1 d2 : D) (S : Sto) : PR := match isDc S d2 with
  | some n => (dlook S n d1).map fun p => (.bl p.1.isSome, p.2)
  | none => inD d1 d2 S
def notInDD (d1 d2 : D) (S : Sto) : PR := match isDc S d2 with
  | some n => (dlook S n d1).map fun p => (.bl (!p.1.isSome), p.2)
  | none => notInD d1 d2 S
def ixDD (d1 d2 : D) (S : Sto) : PR := match isDc S d1 with
  | some n => (match dlook S n d2 with
    | some (some d, S') => some (d, S')
    | _ => none)
  | none => ixD d1 d2 S
section
variable {X : Cx} {pins : List (Addr × Obj)} {σ : L2.St} {s : Shared}
theorem isDc_loc {S : Sto} {d : D} {n : Nat} (h : isDc S d = some n) : d = .loc n := by
  unfold isDc at h
  split at h
  · split at h
    · cases h; rfl
    · cases h; rfl
    · cases h
  · cases h
mutual
theorem key_reads {K : PySem.W.Frag} {mw : MW} {o : Wd} : ∀ {k : TK} {v : V}, RD K mw o (keyD k) v → Dp K o.H v (pdK k)
  | .int i, v, r => by
    simp only [keyD] at r
    cases r
    simp only [pdK]
    constructor
  | .str i, v, r => by
    simp only [keyD] at r
    cases r
    simp only [pdK]
    constructor
  | .tup ks, v, r => by
    simp only [keyD] at r
    cases r with
    | tup h p =>
      simp only [pdK]
      exact .tup h (keys_read p)
theorem keys_read {K : PySem.W.Frag} {mw : MW} {o : Wd} : ∀ {ks : List TK} {vs : List V}, RDs K mw o (keyDs ks) vs → DpAll K o.H vs (pdKs ks)
  | [], vs, r => by
    simp only [keyDs] at r
    cases r
    simp only [pdKs]
    exact .nil
  | k :: ks, vs, r => by
    simp only [keyDs] at r
    cases r with
    | cons r t =>
      simp only [pdKs]
      exact .cons (key_reads r) (keys_read t)
end
theorem key_is {o : Wd} {k : TK} {b : Addr} (I : Inv X pins σ o.H s) (r : RD X.K X.mw o (keyD k) (.ref b)) (hd : k.deep ≤ 8) : (dataKind X.prog X.w).is s.heap k b := ⟨Dp.reads I _ _ _ (key_reads r) rfl, hd⟩
/-- the dict as the library has it -/
theorem dict_of {o : Wd} {a : Addr} {kvs : List (TK × D)} (I : Inv X pins σ o.H s) (h : RSO X.K X.mw o a (.dd kvs)) : ∃ xs : List (TK × Addr × Value), o.H a = some (DictO a (xs.map (entT X.w))) ∧ kvs.length ≤ sizeLine ∧ (a == sysModules) = false ∧ s.heap.DictOfH (dataKind X.prog X.w) a xs ∧
    Paired (fun (p : TK × D) (q : TK × Addr × Value) => p.1 = q.1 ∧ q.1.deep ≤ 8 ∧ RD X.K X.mw o (keyD q.1) (.ref q.2.1) ∧ ∃ v, RelV v q.2.2 ∧ RD X.K X.mw o p.2 v) kvs xs := by
  obtain ⟨xs, e, hl, hm, hn, p⟩ := h
  obtain ⟨⟨ob, ea, ep, h1, h2, h3, h4⟩, q1, q2⟩ := I.hok a _ e
  refine ⟨xs, e, hl, hm, ⟨ob, ea, ep, h1, h2, h3, h4, fun x hx => ?_, hn⟩, p⟩
  clear e h4 hl hn q1 q2
  induction p with
  | nil => cases hx
  | cons r t ih =>
    rcases List.mem_cons.mp hx with z | z
    · subst z
      exact key_is I r.2.2.1 r.2.1
    · exact ih z
theorem dval_at {R : D → Value → Prop} {F : TK → TK × Addr × Value → Prop} (k : TK) : ∀ {kvs : List (TK × D)} {xs : List (TK × Addr × Value)}, Paired (fun (p : TK × D) (q : TK × Addr × Value) => p.1 = q.1 ∧ F p.1 q ∧ R p.2 q.2.2) kvs xs →
    (dval kvs k = none ∧ atKey xs k = none) ∨ ∃ d y, dval kvs k = some d ∧ atKey xs k = some y ∧ R d y.2
  | _, _, .nil => .inl ⟨rfl, rfl⟩
  | _, _, .cons (a := p) (b := q) h t => by
    obtain ⟨h1, h2, h3⟩ := h
    by_cases e : p.1 = k
    · refine .inr ⟨p.2, q.2, ?_, ?_, h3⟩
      · simp [dval, e]
      · simp [atKey, ← h1, e]
    · have ih := dval_at (R := R) (F := F) k t
      have e2 : ¬ q.1 = k := by rw [← h1]; exact e
      simpa [dval, atKey, List.find?_cons, e, e2] using ih
end
end PV

set_option Elab.async false
set_option linter.all false
set_option maxRecDepth 100000
set_option maxHeartbeats 3999000
namespace PV
open L2 PyProof.Rows PySem PySem.Spec

/-! ### built-in functions -/
def lenD (ds : List D) (S : Sto) : PR := match ds with
  | [d] => (match seqOf S d with
    | some xs => some (.int xs.length, S)
    | none => (match d with
      | .str z => if z.length ≤ sizeLine then some (.int z.length, S) else none
      | _ => none))
  | _ => none
def absD (ds : List D) (S : Sto) : PR := match ds with
  | [.int i] => some (.int (if i < 0 then -i else i), S)
  | _ => none
def intD (ds : List D) (S : Sto) : PR := match ds with
  | [.int i] => some (.int i, S)
  | [.bl b] => some (.int (if b then 1 else 0), S)
  | _ => none
def listD (ds : List D) (S : Sto) : PR := match ds with
  | [d] => (match seqOf S d with
    | some xs => some (.loc S.length, S ++ [.lst xs])
    | none => none)
  | _ => none
def tupleD (ds : List D) (S : Sto) : PR := match ds with
  | [d] => (match seqOf S d with
    | some xs => some (.tup xs, S)
    | none => none)
  | _ => none
def boolsOf : List D → Option (List Bool) := mapO fun d => match d with
  | .bl b => some b
  | _ => none
def intsOf : List D → Option (List Int) := mapO fun d => match d with
  | .int i => some i
  | _ => none
def allD (ds : List D) (S : Sto) : PR := match ds with
  | [d] => (match (lisOf S d).bind boolsOf with
    | some bs => some (.bl (bs.all id), S)
    | none => none)
  | _ => none
def anyD (ds : List D) (S : Sto) : PR := match ds with
  | [d] => (match (lisOf S d).bind boolsOf with
    | some bs => some (.bl (bs.any id), S)
    | none => none)
  | _ => none
def sumD (ds : List D) (S : Sto) : PR := match ds with
  | [d] => (match (lisOf S d).bind intsOf with
    | some ns => some (.int ns.sum, S)
    | none => none)
  | _ => none
def maxL : Int → List Int → Int
  | m, [] => m
  | m, x :: r => maxL (if x > m then x else m) r
def minL : Int → List Int → Int
  | m, [] => m
  | m, x :: r => minL (if x < m then x else m) r
def maxD (ds : List D) (S : Sto) : PR := match ds with
  | [.int i, .int j] => some (.int (if j > i then j else i), S)
  | [d] => (match (lisOf S d).bind intsOf with
    | some (n :: ns) => some (.int (maxL n ns), S)
    | _ => none)
  | _ => none
def minD (ds : List D) (S : Sto) : PR := match ds with
  | [.int i, .int j] => some (.int (if j < i then j else i), S)
  | [d] => (match (lisOf S d).bind intsOf with
    | some (n :: ns) => some (.int (minL n ns), S)
    | _ => none)
  | _ => none
def reprD (ds : List D) (S : Sto) : PR := match ds with
  | [.non] => some (.str "None", S)
  | [.bl b] => some (.str (if b then "True" else "False"), S)
  | [.int i] => if i.natAbs.log2 < 1920 then some (.str (toString i), S) else none
  | _ => none
/-- what a thing is -/
inductive Kd where
  | non | bool | int | str | tuple | list | dict
def Kd.s : Kd → String
  | .non => "NoneType"
  | .bool => "bool"
  | .int => "int"
  | .str => "str"
  | .tuple => "tuple"
  | .list => "list"
  | .dict => "dict"
def kdOf (S : Sto) : D → Option Kd
  | .non => some .non
  | .bl _ => some .bool
  | .int _ => some .int
  | .str _ => some .str
  | .tup _ => some .tuple
  | .fz _ => some .list
  | .loc n => (match S[n]? with
    | some (.lst _) => some .list
    | some (.dk _) => some .dict
    | _ => none)
  | _ => none
/-- a built-in class that is asked -/
def Kd.ofS (x : String) : Option Kd := if x = "int" then some .int else if x = "bool" then some .bool else if x = "tuple" then some .tuple else if x = "list" then some .list else if x = "str" then some .str else if x = "dict" then some .dict else none
def Kd.isi : Kd → Kd → Bool
  | .non, .non => true
  | .bool, .bool => true
  | .bool, .int => true
  | .int, .int => true
  | .str, .str => true
  | .tuple, .tuple => true
  | .list, .list => true
  | .dict, .dict => true
  | _, _ => false
def tyOf : D → Option Kd
  | .ty n => Kd.ofS n
  | _ => none
def isiD (ds : List D) (S : Sto) : PR := match ds with
  | [d, .tup cs] => (match kdOf S d, mapO tyOf cs with
    | some k, some ks => some (.bl (ks.any k.isi), S)
    | _, _ => none)
  | [d, c] => (match kdOf S d, tyOf c with
    | some k, some c => some (.bl (k.isi c), S)
    | _, _ => none)
  | _ => none

section
variable {X : Cx}
theorem RDs.one {K : PySem.W.Frag} {mw : MW} {o : Wd} {d : D} {vs : List V} (h : RDs K mw o [d] vs) : ∃ v, vs = [v] ∧ RD K mw o d v := by
  cases h with
  | cons r t => cases t; exact ⟨_, rfl, r⟩
theorem RDs.two {K : PySem.W.Frag} {mw : MW} {o : Wd} {d e : D} {vs : List V} (h : RDs K mw o [d, e] vs) : ∃ v w, vs = [v, w] ∧ RD K mw o d v ∧ RD K mw o e w := by
  cases h with
  | cons r t =>
    obtain ⟨w, rfl, q⟩ := RDs.one t
    exact ⟨_, _, rfl, r, q⟩
theorem RDs.boolsR {K : PySem.W.Frag} {mw : MW} {o : Wd} : ∀ {ds : List D} {vs : List V} {bs : List Bool}, RDs K mw o ds vs → PV.boolsOf ds = some bs → vs = bs.map V.bl
  | _, _, _, .nil, e => by cases e; rfl
  | _, _, _, .cons (d := d) r t, e => by
    obtain ⟨b, bs, e1, e2, rfl⟩ := mapO_cons e
    have := RDs.boolsR t e2
    subst this
    cases r <;> first | (cases e1; rfl) | cases e1
theorem RDs.intsR {K : PySem.W.Frag} {mw : MW} {o : Wd} : ∀ {ds : List D} {vs : List V} {ns : List Int}, RDs K mw o ds vs → PV.intsOf ds = some ns → vs = ns.map V.int
  | _, _, _, .nil, e => by cases e; rfl
  | _, _, _, .cons (d := d) r t, e => by
    obtain ⟨b, bs, e1, e2, rfl⟩ := mapO_cons e
    have := RDs.intsR t e2
    subst this
    cases r <;> first | (cases e1; rfl) | cases e1
theorem lis_bind {α : Type} {S : Sto} {d : D} {f : List D → Option α} {y : α} (h : (lisOf S d).bind f = some y) : ∃ ds, lisOf S d = some ds ∧ f ds = some y := Option.bind_eq_some_iff.mp h
theorem cd_len : CallD X (.builtin "len") lenD := by
  intro pins s σ H xs us Q I rx hh
  obtain ⟨o, ds, S, d, S', rfl, r, rs, e, q⟩ := hh
  unfold lenD at e
  split at e
  · obtain ⟨v, rfl, r1⟩ := r.one
    split at e
    · rename_i xs hs
      cases e
      obtain ⟨a, vs, rfl, p, hsq⟩ := r1.seq rs hs
      refine call_len pins s σ _ _ us Q I rx ⟨_, vs.length, rfl, ?_, ?_⟩
      · rcases hsq with h | h
        · exact .inl ⟨vs, h, rfl⟩
        · exact .inr ⟨vs, h, rfl⟩
      · rw [← p.length]
        exact q o _ .refl rs (.int _)
    · split at e
      · split at e
        · rename_i hz
          cases e
          cases r1
          exact call_len pins s σ _ _ us Q I rx ⟨_, _, rfl, ⟨hz, rfl⟩, q o _ .refl rs (.int _)⟩
        · cases e
      · cases e
  · cases e
theorem cd_abs : CallD X (.builtin "abs") absD := by
  intro pins s σ H xs us Q I rx hh
  obtain ⟨o, ds, S, d, S', rfl, r, rs, e, q⟩ := hh
  unfold absD at e
  split at e
  · obtain ⟨v, rfl, r1⟩ := r.one
    cases e
    cases r1
    exact call_abs pins s σ _ _ us Q I rx ⟨_, rfl, q o _ .refl rs (.int _)⟩
  · cases e
theorem cd_int : CallD X (.type "int") intD := by
  intro pins s σ H xs us Q I rx hh
  obtain ⟨o, ds, S, d, S', rfl, r, rs, e, q⟩ := hh
  unfold intD at e
  split at e
  · obtain ⟨v, rfl, r1⟩ := r.one
    cases e
    cases r1
    exact call_int1 pins s σ _ _ us Q I rx (.inl ⟨_, rfl, q o _ .refl rs (.int _)⟩)
  · obtain ⟨v, rfl, r1⟩ := r.one
    cases e
    cases r1
    exact call_int1 pins s σ _ _ us Q I rx (.inr ⟨_, rfl, q o _ .refl rs (.int _)⟩)
  · cases e
theorem cd_list : CallD X (.type "list") listD := by
  intro pins s σ H xs us Q I rx hh
  obtain ⟨o, ds, S, d, S', rfl, r, rs, e, q⟩ := hh
  unfold listD at e
  split at e
  · obtain ⟨v, rfl, r1⟩ := r.one
    split at e
    · rename_i xs hs
      cases e
      obtain ⟨a, vs, rfl, p, hsq⟩ := r1.seq rs hs
      refine call_list_of pins s σ _ _ us Q I rx ⟨a, vs, rfl, hsq, fun l hl => ?_⟩
      obtain ⟨a1, a2, a3⟩ := rs.newLst hl p
      exact q _ _ a1 a2 a3
    · cases e
  · cases e
theorem cd_tuple : CallD X (.type "tuple") tupleD := by
  intro pins s σ H xs us Q I rx hh
  obtain ⟨o, ds, S, d, S', rfl, r, rs, e, q⟩ := hh
  unfold tupleD at e
  split at e
  · obtain ⟨v, rfl, r1⟩ := r.one
    split at e
    · rename_i xs hs
      cases e
      obtain ⟨a, vs, rfl, p, hsq⟩ := r1.seq rs hs
      refine call_tuple_of pins s σ _ _ us Q I rx ⟨a, vs, rfl, ?_⟩
      rcases hsq with h | h
      · refine .inl ⟨h, fun l hl => ?_⟩
        obtain ⟨a1, a2, a3⟩ := rs.newTup hl p
        exact q _ _ a1 a2 a3
      · exact .inr ⟨h, q o _ .refl rs (.tup h p)⟩
    · cases e
  · cases e
theorem cd_all (hc : X.calm = true) : CallD X (.builtin "all") allD := by
  intro pins s σ H xs us Q I rx hh
  obtain ⟨o, ds, S, d, S', rfl, r, rs, e, q⟩ := hh
  unfold allD at e
  split at e
  · obtain ⟨v, rfl, r1⟩ := r.one
    split at e
    · rename_i bs hs
      cases e
      obtain ⟨zs, h1, h2⟩ := lis_bind hs
      obtain ⟨a, vs, rfl, p, hsq⟩ := r1.lis rs h1
      have := p.boolsR h2
      subst this
      exact cr_all hc pins s σ _ _ us Q I rx ⟨a, bs, rfl, hsq, q o _ .refl rs (.bl _)⟩
    · cases e
  · cases e
theorem cd_any (hc : X.calm = true) : CallD X (.builtin "any") anyD := by
  intro pins s σ H xs us Q I rx hh
  obtain ⟨o, ds, S, d, S', rfl, r, rs, e, q⟩ := hh
  unfold anyD at e
  split at e
  · obtain ⟨v, rfl, r1⟩ := r.one
    split at e
    · rename_i bs hs
      cases e
      obtain ⟨zs, h1, h2⟩ := lis_bind hs
      obtain ⟨a, vs, rfl, p, hsq⟩ := r1.lis rs h1
      have := p.boolsR h2
      subst this
      exact cr_any hc pins s σ _ _ us Q I rx ⟨a, bs, rfl, hsq, q o _ .refl rs (.bl _)⟩
    · cases e
  · cases e
theorem cd_sum (hc : X.calm = true) : CallD X (.builtin "sum") sumD := by
  intro pins s σ H xs us Q I rx hh
  obtain ⟨o, ds, S, d, S', rfl, r, rs, e, q⟩ := hh
  unfold sumD at e
  split at e
  · obtain ⟨v, rfl, r1⟩ := r.one
    split at e
    · rename_i bs hs
      cases e
      obtain ⟨zs, h1, h2⟩ := lis_bind hs
      obtain ⟨a, vs, rfl, p, hsq⟩ := r1.lis rs h1
      have := p.intsR h2
      subst this
      exact cr_sum hc pins s σ _ _ us Q I rx ⟨a, bs, rfl, hsq, q o _ .refl rs (.int _)⟩
    · cases e
  · cases e
theorem maxL_mem : ∀ (ns : List Int) (m : Int), maxL m ns = m ∨ maxL m ns ∈ ns
  | [], m => .inl rfl
  | x :: r, m => by
    unfold maxL
    by_cases h : x > m
    · rw [if_pos h]
      rcases maxL_mem r x with e | e
      · exact .inr (by rw [e]; exact List.mem_cons_self)
      · exact .inr (List.mem_cons_of_mem _ e)
    · rw [if_neg h]
      rcases maxL_mem r m with e | e
      · exact .inl e
      · exact .inr (List.mem_cons_of_mem _ e)
theorem maxL_le : ∀ (ns : List Int) (m : Int), m ≤ maxL m ns ∧ ∀ x ∈ ns, x ≤ maxL m ns
  | [], m => ⟨Int.le_refl _, fun _ h => nomatch h⟩
  | y :: r, m => by
    unfold maxL
    obtain ⟨h1, h2⟩ := maxL_le r (if y > m then y else m)
    have h3 : m ≤ (if y > m then y else m) ∧ y ≤ (if y > m then y else m) := by split <;> omega
    refine ⟨Int.le_trans h3.1 h1, fun x hx => ?_⟩
    rcases List.mem_cons.mp hx with rfl | hx
    · exact Int.le_trans h3.2 h1
    · exact h2 x hx
theorem minL_mem : ∀ (ns : List Int) (m : Int), minL m ns = m ∨ minL m ns ∈ ns
  | [], m => .inl rfl
  | x :: r, m => by
    unfold minL
    by_cases h : x < m
    · rw [if_pos h]
      rcases minL_mem r x with e | e
      · exact .inr (by rw [e]; exact List.mem_cons_self)
      · exact .inr (List.mem_cons_of_mem _ e)
    · rw [if_neg h]
      rcases minL_mem r m with e | e
      · exact .inl e
      · exact .inr (List.mem_cons_of_mem _ e)
theorem minL_le : ∀ (ns : List Int) (m : Int), minL m ns ≤ m ∧ ∀ x ∈ ns, minL m ns ≤ x
  | [], m => ⟨Int.le_refl _, fun _ h => nomatch h⟩
  | y :: r, m => by
    unfold minL
    obtain ⟨h1, h2⟩ := minL_le r (if y < m then y else m)
    have h3 : (if y < m then y else m) ≤ m ∧ (if y < m then y else m) ≤ y := by split <;> omega
    refine ⟨Int.le_trans h1 h3.1, fun x hx => ?_⟩
    rcases List.mem_cons.mp hx with rfl | hx
    · exact Int.le_trans h1 h3.2
    · exact h2 x hx
theorem cd_max (hc : X.calm = true) : CallD X (.builtin "max") maxD := by
  intro pins s σ H xs us Q I rx hh
  obtain ⟨o, ds, S, d, S', rfl, r, rs, e, q⟩ := hh
  unfold maxD at e
  split at e
  · obtain ⟨v, w, rfl, r1, r2⟩ := r.two
    cases e
    cases r1
    cases r2
    exact call_max2 hc pins s σ _ _ us Q I rx ⟨_, _, rfl, q o _ .refl rs (.int _)⟩
  · obtain ⟨v, rfl, r1⟩ := r.one
    split at e
    · rename_i n ns hs
      cases e
      obtain ⟨zs, h1, h2⟩ := lis_bind hs
      obtain ⟨a, vs, rfl, p, hsq⟩ := r1.lis rs h1
      have := p.intsR h2
      subst this
      refine cr_max hc pins s σ _ _ us Q I rx ⟨a, n :: ns, rfl, hsq, Nat.succ_pos _, fun m hm hle => ?_⟩
      have e : m = maxL n ns := by
        obtain ⟨k1, k2⟩ := maxL_le ns n
        have : m ≤ maxL n ns := by
          rcases List.mem_cons.mp hm with rfl | hm
          · exact k1
          · exact k2 m hm
        have : maxL n ns ≤ m := by
          rcases maxL_mem ns n with e | e
          · rw [e]; exact hle _ List.mem_cons_self
          · exact hle _ (List.mem_cons_of_mem _ e)
        omega
      rw [e]
      exact q o _ .refl rs (.int _)
    · cases e
  · cases e
theorem cd_min (hc : X.calm = true) : CallD X (.builtin "min") minD := by
  intro pins s σ H xs us Q I rx hh
  obtain ⟨o, ds, S, d, S', rfl, r, rs, e, q⟩ := hh
  unfold minD at e
  split at e
  · obtain ⟨v, w, rfl, r1, r2⟩ := r.two
    cases e
    cases r1
    cases r2
    exact call_min2 hc pins s σ _ _ us Q I rx ⟨_, _, rfl, q o _ .refl rs (.int _)⟩
  · obtain ⟨v, rfl, r1⟩ := r.one
    split at e
    · rename_i n ns hs
      cases e
      obtain ⟨zs, h1, h2⟩ := lis_bind hs
      obtain ⟨a, vs, rfl, p, hsq⟩ := r1.lis rs h1
      have := p.intsR h2
      subst this
      refine cr_min hc pins s σ _ _ us Q I rx ⟨a, n :: ns, rfl, hsq, Nat.succ_pos _, fun m hm hle => ?_⟩
      have e : m = minL n ns := by
        obtain ⟨k1, k2⟩ := minL_le ns n
        have : minL n ns ≤ m := by
          rcases List.mem_cons.mp hm with rfl | hm
          · exact k1
          · exact k2 m hm
        have : m ≤ minL n ns := by
          rcases minL_mem ns n with e | e
          · rw [e]; exact hle _ List.mem_cons_self
          · exact hle _ (List.mem_cons_of_mem _ e)
        omega
      rw [e]
      exact q o _ .refl rs (.int _)
    · cases e
  · cases e
theorem cd_repr : CallD X (.builtin "repr") reprD := by
  intro pins s σ H xs us Q I rx hh
  obtain ⟨o, ds, S, d, S', rfl, r, rs, e, q⟩ := hh
  unfold reprD at e
  split at e
  · obtain ⟨v, rfl, r1⟩ := r.one
    cases e
    cases r1
    obtain ⟨u, rfl, ru⟩ := vals1 rx
    cases ru
    exact PySem.P.repr_of_none ⟨.str _, o.H, I.tok _, ⟨_, rfl⟩, q o _ .refl rs (.str _)⟩
  · obtain ⟨v, rfl, r1⟩ := r.one
    cases e
    cases r1
    obtain ⟨u, rfl, ru⟩ := vals1 rx
    cases ru
    exact PySem.P.repr_of_bool ⟨.str _, o.H, I.tok _, ⟨_, rfl⟩, q o _ .refl rs (.str _)⟩
  · obtain ⟨v, rfl, r1⟩ := r.one
    split at e
    · rename_i hz
      cases e
      cases r1
      obtain ⟨u, rfl, ru⟩ := vals1 rx
      obtain ⟨t, rfl⟩ := ru
      exact PySem.P.repr_of_int hz ⟨.str _, o.H, I.tok _, ⟨_, rfl⟩, q o _ .refl rs (.str _)⟩
    · cases e
  · cases e
theorem ty_of {K : PySem.W.Frag} {mw : MW} {o : Wd} {S : Sto} {d : D} {v : V} {k : Kd} (rs : RS K mw o S) (r : RD K mw o d v) (e : kdOf S d = some k) : TyX K o.H v (.type k.s) := by
  cases r with
  | non => cases e; exact .base .non
  | bl b => cases e; exact .base (.bl b)
  | int i => cases e; exact .base (.int i)
  | str x => cases e; exact .base (.str x)
  | tup h p =>
    cases e
    rcases h with (h | ⟨ob, h⟩) | ⟨ob, its, n, h1, h2, h3, _⟩
    · exact .base (.tup h)
    · exact .fTuple h
    · exact .kTuple h1 h2
  | fz h p =>
    cases e
    rcases h with ⟨ob, h⟩ | ((h | ⟨_, h⟩) | ⟨ob, its, n, h1, h2, h3, _⟩)
    · exact .base (.frz h)
    · cases h
    · cases h
    · exact .kList h1 h2
  | @loc n a hn =>
    unfold kdOf at e
    dsimp only at e
    cases hx : S[n]? with
    | none => rw [hx] at e; cases e
    | some y =>
      rw [hx] at e
      obtain ⟨b, eb, z⟩ := rs.obj n y hx
      rw [hn] at eb; cases eb
      cases y with
      | lst ds => cases e; obtain ⟨vs, h1, _⟩ := z; exact .base (.lst h1)
      | dk ds => cases e; obtain ⟨vs, h1, _⟩ := z; exact .base (.dK h1)
      | dd ds => cases e
      | ins c fs => cases e
  | gl _ => cases e
  | ty _ => cases e
theorem kit_ok : ∀ (k c : Kd), (∃ n, Kd.ofS n = some c) → kitB k.s c.s = some (k.isi c) := by
  intro k c h
  obtain ⟨n, h⟩ := h
  cases c with
  | non =>
    unfold Kd.ofS at h
    repeat' split at h
    all_goals cases h
  | bool => cases k <;> decide +kernel
  | int => cases k <;> decide +kernel
  | str => cases k <;> decide +kernel
  | tuple => cases k <;> decide +kernel
  | list => cases k <;> decide +kernel
  | dict => cases k <;> decide +kernel
theorem ofS_s {n : String} {c : Kd} (h : Kd.ofS n = some c) : n = c.s := by
  unfold Kd.ofS at h
  repeat' split at h
  all_goals first | (cases h; assumption) | cases h
theorem cls_of {K : PySem.W.Frag} {mw : MW} {o : Wd} {d : D} {v : V} {c : Kd} (r : RD K mw o d v) (e : tyOf d = some c) : v = .ty c.s ∧ ∃ n, Kd.ofS n = some c := by
  cases r with
  | ty n => exact ⟨by rw [ofS_s e], n, e⟩
  | _ => cases e
theorem kitAny_ok {K : PySem.W.Frag} {k : Kd} : ∀ {cs : List Kd}, (∀ c ∈ cs, ∃ n, Kd.ofS n = some c) → PySem.W.kitAny K (.type k.s) (cs.map fun c => Value.type c.s) = some (cs.any k.isi)
  | [], _ => rfl
  | c :: cs, h => by
    have h1 := kit_ty (K := K) (kit_ok k c (h c List.mem_cons_self))
    have h2 := kitAny_ok (K := K) (k := k) (cs := cs) fun c' h' => h c' (List.mem_cons_of_mem _ h')
    show PySem.W.kitAny K (.type k.s) (.type c.s :: cs.map fun c => Value.type c.s) = _
    unfold PySem.W.kitAny
    rw [h1, List.any_cons]
    cases k.isi c with
    | true => rfl
    | false => exact h2
theorem tys_of {K : PySem.W.Frag} {mw : MW} {o : Wd} : ∀ {ds : List D} {vs : List V} {cs : List Kd}, RDs K mw o ds vs → mapO tyOf ds = some cs → vs = cs.map (fun c => V.ty c.s) ∧ ∀ c ∈ cs, ∃ n, Kd.ofS n = some c
  | _, _, _, .nil, e => by cases e; exact ⟨rfl, fun _ h => nomatch h⟩
  | _, _, _, .cons r t, e => by
    obtain ⟨b, bs, e1, e2, rfl⟩ := mapO_cons e
    obtain ⟨h1, h2⟩ := tys_of t e2
    obtain ⟨h3, h4⟩ := cls_of r e1
    refine ⟨by rw [h1, h3]; rfl, fun c hc => ?_⟩
    rcases List.mem_cons.mp hc with rfl | hc
    · exact h4
    · exact h2 c hc
theorem vals_ty : ∀ {cs : List Kd} {us : List Value}, Vals (cs.map fun c => V.ty c.s) us → us = cs.map fun c => Value.type c.s
  | [], _, .nil => rfl
  | c :: cs, _, .cons r t => by rw [vals_ty t]; cases r; rfl
theorem cd_isi : CallD X (.builtin "isinstance") isiD := by
  intro pins s σ H xs us Q I rx hh
  obtain ⟨o, ds, S, d, S', rfl, r, rs, e, q⟩ := hh
  unfold isiD at e
  split at e
  · obtain ⟨v, w, rfl, r1, r2⟩ := r.two
    split at e
    · rename_i k ks e1 e2
      cases e
      cases r2 with
      | @tup tp _ cs h p =>
      obtain ⟨h1, h2⟩ := tys_of p e2
      subst h1
      obtain ⟨u1, u2, rfl, q1, q2⟩ := vals2 rx
      cases (show u2 = Value.ref tp from q2)
      obtain ⟨P, Z, pp, hx⟩ := kit_of I q1 (ty_of rs r1 e1)
      obtain ⟨its, rv, ⟨⟨oc, od, dt, sl⟩, ho, hc, n, hd⟩, _⟩ := I.tuple h
      simp only at hc hd
      subst hc hd
      have := vals_ty rv
      subst this
      exact PySem.W.kia_tup Z I.kIn pp ho (kitAny_ok h2) hx fun tk => ⟨.bl _, o.H, I.tok tk, rfl, q o _ .refl rs (.bl _)⟩
    · cases e
  · obtain ⟨v, w, rfl, r1, r2⟩ := r.two
    split at e
    · rename_i k c e1 e2
      cases e
      obtain ⟨rfl, n, hn⟩ := cls_of r2 e2
      exact call_isi pins s σ _ _ us Q I rx ⟨v, _, _, _, k.isi c, rfl, .ty _, ty_of rs r1 e1, kit_ty (kit_ok k c ⟨n, hn⟩), q o _ .refl rs (.bl _)⟩
    · cases e
  · cases e

/-! ### methods of lists -/
def appendD (d : D) (ds : List D) (S : Sto) : PR := match d, ds with
  | .loc n, [y] => (match lstAt S n with
    | some xs => if xs.length < sizeLine then some (.non, S.set n (.lst (xs ++ [y]))) else none
    | none => none)
  | _, _ => none
def extendD (d : D) (ds : List D) (S : Sto) : PR := match d, ds with
  | .loc n, [.loc m] => (match lstAt S n, lstAt S m with
    | some xs, some ys => if xs.length + ys.length ≤ sizeLine then some (.non, S.set n (.lst (xs ++ ys))) else none
    | _, _ => none)
  | _, _ => none
def popD (d : D) (ds : List D) (S : Sto) : PR := match d, ds with
  | .loc n, [] => (match lstAt S n with
    | some xs => (match xs[xs.length - 1]? with
      | some y => some (y, S.set n (.lst xs.dropLast))
      | none => none)
    | none => none)
  | .loc n, [.int i] => (match lstAt S n with
    | some xs => (match (if -(2 ^ 63) ≤ i ∧ i < 2 ^ 63 then seqIndex? i xs.length else none) with
      | some k => (match xs[k]? with
        | some y => some (y, S.set n (.lst (xs.eraseIdx k)))
        | none => none)
      | none => none)
    | none => none)
  | _, _ => none
def eM (g : D → List D → Sto → PR) (fo : FE) (fa : FA) : FE := fun env S => (fo env S).bind fun d S1 => match d with
  | .loc n => (match lstAt S1 n with
    | some _ => (fa env S1).bind fun ds S2 => lift (g (.loc n) ds S2)
    | none => .stk)
  | _ => .stk
def rDM (K : PySem.W.Frag) (mw : MW) (g : D → List D → Sto → PR) : V → List V → Hp → VK → Prop := fun x xs H Q =>
  ∃ o d1 ds S d S', o.H = H ∧ RD K mw o d1 x ∧ RDs K mw o ds xs ∧ RS K mw o S ∧ g d1 ds S = some (d, S') ∧ ∀ o' v, Le K o o' → RS K mw o' S' → RD K mw o' d v → Q v o'.H
def MtD (X : Cx) (id : String) (g : D → List D → Sto → PR) : Prop := MtR X id (rDM X.K X.mw g)
theorem lstAt_get {S : Sto} {n : Nat} {ds : List D} (h : lstAt S n = some ds) : S[n]? = some (.lst ds) := by
  unfold lstAt at h
  split at h
  · rename_i e; cases h; exact e
  · cases h
theorem RDs.dropLast {K : PySem.W.Frag} {mw : MW} {o : Wd} {ds : List D} {vs : List V} (h : RDs K mw o ds vs) : RDs K mw o ds.dropLast vs.dropLast := by
  rw [List.dropLast_eq_take, List.dropLast_eq_take, h.length]
  exact h.take _
theorem md_append : MtD X "list.append" appendD := by
  intro pins s σ H x xs v us Q I rx rxs hh
  obtain ⟨o, d1, ds, S, d, S', rfl, r1, rd, rs, e, q⟩ := hh
  unfold appendD at e
  split at e
  · obtain ⟨y, rfl, ry⟩ := rd.one
    split at e
    · rename_i ys e1
      split at e
      · rename_i hz
        cases e
        cases r1 with
        | @loc n a hn =>
        obtain ⟨vs, h1, p⟩ := rs.lst hn e1
        obtain ⟨a1, a2⟩ := rs.putL hn h1 (p.append (.cons ry .nil))
        exact mt_append pins s σ _ _ _ v us Q I rx rxs ⟨a, vs, y, rfl, rfl, h1, by rw [← p.length]; exact hz, q _ _ a1 a2 .non⟩
      · cases e
    · cases e
  · cases e
theorem md_extend : MtD X "list.extend" extendD := by
  intro pins s σ H x xs v us Q I rx rxs hh
  obtain ⟨o, d1, ds, S, d, S', rfl, r1, rd, rs, e, q⟩ := hh
  unfold extendD at e
  split at e
  · obtain ⟨y, rfl, ry⟩ := rd.one
    split at e
    · rename_i ys zs e1 e2
      split at e
      · rename_i hz
        cases e
        cases r1 with
        | @loc n a hn =>
        cases ry with
        | @loc m b hm =>
        obtain ⟨vs, h1, p⟩ := rs.lst hn e1
        obtain ⟨ws, h2, p2⟩ := rs.lst hm e2
        obtain ⟨a1, a2⟩ := rs.putL hn h1 (p.append p2)
        exact mt_extend pins s σ _ _ _ v us Q I rx rxs ⟨a, b, vs, ws, rfl, rfl, h1, h2, by rw [← p.length, ← p2.length]; exact hz, q _ _ a1 a2 .non⟩
      · cases e
    · cases e
  · cases e
theorem md_pop : MtD X "list.pop" popD := by
  intro pins s σ H x xs v us Q I rx rxs hh
  obtain ⟨o, d1, ds, S, d, S', rfl, r1, rd, rs, e, q⟩ := hh
  unfold popD at e
  split at e
  · cases rd
    split at e
    · rename_i ys e1
      split at e
      · rename_i y ey
        cases e
        cases r1 with
        | @loc n a hn =>
        obtain ⟨vs, h1, p⟩ := rs.lst hn e1
        obtain ⟨w, hw, rw'⟩ := p.get ey
        obtain ⟨a1, a2⟩ := rs.putL hn h1 p.dropLast
        exact mt_pop pins s σ _ _ _ v us Q I rx rxs ⟨a, vs, w, rfl, rfl, h1, by rw [← p.length]; exact hw, q _ _ a1 a2 (rw'.up a1)⟩
      · cases e
    · cases e
  · obtain ⟨y, rfl, ry⟩ := rd.one
    split at e
    · rename_i ys e1
      split at e
      · rename_i k ek
        split at e
        · rename_i y' ey
          cases e
          cases ry
          cases r1 with
          | @loc n a hn =>
          obtain ⟨vs, h1, p⟩ := rs.lst hn e1
          obtain ⟨w, hw, rw'⟩ := p.get ey
          obtain ⟨a1, a2⟩ := rs.putL hn h1 (p.eraseIdx k)
          split at ek
          · rename_i hb
            exact mt_popAt pins s σ _ _ _ v us Q I rx rxs ⟨a, vs, _, k, w, rfl, rfl, h1, hb.1, hb.2, by rw [← p.length]; exact ek, hw, q _ _ a1 a2 (rw'.up a1)⟩
          · cases ek
        · cases e
      · cases e
    · cases e
  · cases e
end
end PV

set_option Elab.async false
set_option linter.all false
set_option maxRecDepth 100000
set_option maxHeartbeats 3999000
namespace PV
open L2 PyProof.Rows PySem PySem.Spec

/-! ### statements: combinators -/
abbrev FG := D → Env → Sto → Out Env
def sNil : FS := fun env S => .ok (.nx env) S
def sSeq (f g : FS) : FS := fun env S => (f env S).bind fun fl S1 => match fl with
  | .nx env1 => g env1 S1
  | .rt d => .ok (.rt d) S1
  | .bk e => .ok (.bk e) S1
  | .ct e => .ok (.ct e) S1
def sBrk : FS := fun env S => .ok (.bk env) S
def sCnt : FS := fun env S => .ok (.ct env) S
def sExpr (fe : FE) : FS := fun env S => (fe env S).bind fun _ S1 => .ok (.nx env) S1
def sRet (fe : FE) : FS := fun env S => (fe env S).bind fun d S1 => .ok (.rt d) S1
def sRetN : FS := fun env S => .ok (.rt .non) S
def sIf (t : FT) (f g : FS) : FS := fun env S => (t env S).bind fun b S1 => if b = true then f env S1 else g env S1
def sAsg (fe : FE) (g : FG) : FS := fun env S => (fe env S).bind fun d S1 => (g d env S1).bind fun env1 S2 => .ok (.nx env1) S2
def gNm (i : Nat) : FG := fun d env S => .ok (env.set i (some d)) S
def gAll : List FG → List D → Env → Sto → Out Env
  | [], [], env, S => .ok env S
  | g :: gs, d :: ds, env, S => (g d env S).bind fun env1 S1 => gAll gs ds env1 S1
  | _, _, _, _ => .stk
def gTp (gs : List FG) : FG := fun d env S => match d with
  | .tup ds => gAll gs ds env S
  | _ => .stk
/-- o[i] = d -/
def setD (o i d : D) (S : Sto) : Option Sto := match o, i with
  | .loc n, .int k => (match lstAt S n with
    | some xs => (match ixN xs.length k with
      | some j => some (S.set n (.lst (xs.set j d)))
      | none => none)
    | none => none)
  | _, _ => none
/-- a, b = x, y -/
def sPar (i j : Nat) (fa : FA) : FS := fun env S => (fa env S).bind fun ds S1 => match ds with
  | [d, e] => .ok (.nx ((env.set i (some d)).set j (some e))) S1
  | _ => .stk
/-- a, b, c = x, y, z -/
def sPar3 (i j l : Nat) (fa : FA) : FS := fun env S => (fa env S).bind fun ds S1 => match ds with
  | [d, e, f] => .ok (.nx (((env.set i (some d)).set j (some e)).set l (some f))) S1
  | _ => .stk
def sAug (i : Nat) (g : D → D → Sto → PR) (fe : FE) : FS := fun env S => match env[i]? with
  | some (some x) => (fe env S).bind fun y S1 => (lift (g x y S1)).bind fun z S2 => .ok (.nx (env.set i (some z))) S2
  | _ => .stk

def iaddD (a b : D) (S : Sto) : PR := match a, b with
  | .int i, .int j => some (.int (i + j), S)
  | _, _ => none
section
variable (K : PySem.W.Frag) (mw : MW)
def FlP (D' : Ends) : Fl → Sto → Wd → Prop := fun fl _ o => match fl with
  | .nx env => ∀ σ, RE K mw o env σ → D'.nx σ o.H
  | .rt d => ∀ v, RD K mw o d v → D'.rt v o.H
  | .bk env => ∀ σ, RE K mw o env σ → D'.bk σ o.H
  | .ct env => ∀ σ, RE K mw o env σ → D'.ct σ o.H
def tS (W : WX) (f : FS) : TS := fun D' σ H => ∃ env S o, At K mw env S o σ H ∧ Post K mw (wx K mw W σ) (FlP K mw D') o (f env S)
def SameBut (ch : List Nat) (σ σ' : L2.St) : Prop := σ'.length = σ.length ∧ ∀ j, j ∉ ch → σ'[j]? = σ[j]?
def tG (W : WX) (ch : List Nat) (g : FG) : TG := fun v σ H Q => ∃ d env S o, At K mw env S o σ H ∧ RD K mw o d v ∧ Post K mw (wx K mw W σ) (fun env' _ o' => ∀ σ', RE K mw o' env' σ' → SameBut ch σ σ' → Q σ' o'.H) o (g d env S)
def tGs (W : WX) (ch : List Nat) (gs : List FG) : TGs := fun vs σ H Q => ∃ ds env S o, At K mw env S o σ H ∧ RDs K mw o ds vs ∧ Post K mw (wx K mw W σ) (fun env' _ o' => ∀ σ', RE K mw o' env' σ' → SameBut ch σ σ' → Q σ' o'.H) o (gAll gs ds env S)
end
theorem SameBut.refl {ch : List Nat} {σ : L2.St} : SameBut ch σ σ := ⟨rfl, fun _ _ => rfl⟩
theorem SameBut.set {σ : L2.St} {i : Nat} {v : Option V} : SameBut [i] σ (σ.set i v) := ⟨by simp, fun j h => List.getElem?_set_ne (fun e => h (by simp [e]))⟩
theorem SameBut.trans {c1 c2 : List Nat} {s1 s2 s3 : L2.St} (a : SameBut c1 s1 s2) (b : SameBut c2 s2 s3) : SameBut (c1 ++ c2) s1 s3 := ⟨b.1.trans a.1, fun j h => (b.2 j fun z => h (List.mem_append_right _ z)).trans (a.2 j fun z => h (List.mem_append_left _ z))⟩
/-- the wish does not hang on the names -/
def Flat (W : WX) : Prop := ∀ c d σ σ' H, W c d σ H → W c d σ' H
section
variable {X : Cx} {W : WX} {a b c : Expr} {es : List Expr} {fa fb fc : FE} {fr : FA} {pos : Pos} {ft fu : FT} {st : Stmt} {rest : List Stmt} {f g : FS}
theorem PS.imp {t t' : TS} (h : PS X st t) (q : ∀ D' σ H, t' D' σ H → t D' σ H) : PS X st t' := ⟨fun pins s σ H D' I z => h.run pins s σ H D' I (q D' σ H z)⟩
theorem PSs.imp {t t' : TS} (h : PSs X rest t) (q : ∀ D' σ H, t' D' σ H → t D' σ H) : PSs X rest t' := ⟨fun pins s σ H D' I z => h.run pins s σ H D' I (q D' σ H z)⟩
theorem PG.imp {tg : Expr} {t t' : TG} (h : PG X tg t) (q : ∀ v σ H Q, t' v σ H Q → t v σ H Q) : PG X tg t' := ⟨fun pins s σ H v u Q I r z => h.run pins s σ H v u Q I r (q v σ H Q z)⟩
theorem PGs.imp {ts : List Expr} {t t' : TGs} (h : PGs X ts t) (q : ∀ v σ H Q, t' v σ H Q → t v σ H Q) : PGs X ts t' := ⟨fun pins s σ H v u Q I r z => h.run pins s σ H v u Q I r (q v σ H Q z)⟩
theorem Post.wish {K : PySem.W.Frag} {mw : MW} {α : Type} {Wx Wx' : Ex → Wd → Prop} {R : α → Sto → Wd → Prop} {o : Wd} {r : Out α} (h : Post K mw Wx R o r) (f : ∀ x o', Wx x o' → Wx' x o') : Post K mw Wx' R o r := by
  cases r with
  | ok a S => exact h
  | exc x S => exact fun o' l rs => f x o' (h o' l rs)
  | stk => exact h
theorem wx_flat {K : PySem.W.Frag} {mw : MW} (hW : Flat W) {σ σ' : L2.St} {x : Ex} {o : Wd} (h : wx K mw W σ x o) : wx K mw W σ' x o := fun c od q => hW _ _ _ _ _ (h c od q)
theorem d_snil : PSs X [] (tS X.K X.mw W sNil) := by
  refine PSs.imp pss_nil fun D' σ H h => ?_
  obtain ⟨env, S, o, ⟨rfl, re, rs⟩, p⟩ := h
  exact p.here rs σ re
theorem d_scons (hW : Flat W) (h1 : PS X st (tS X.K X.mw W f)) (h2 : PSs X rest (tS X.K X.mw W g)) : PSs X (st :: rest) (tS X.K X.mw W (sSeq f g)) := by
  refine PSs.imp (pss_cons h1 h2) fun D' σ H h => ?_
  obtain ⟨env, S, o, ⟨rfl, re, rs⟩, p⟩ := h
  refine ⟨env, S, o, ⟨rfl, re, rs⟩, (Post.bind p).imp fun fl S1 o1 l1 rs1 p1 => ?_⟩
  cases fl with
  | nx env1 => exact fun σ1 re1 => ⟨env1, S1, o1, ⟨rfl, re1, rs1⟩, p1.wish fun x o' h => wx_flat hW h⟩
  | rt d => exact fun v r => p1.here rs1 v r
  | bk e => exact fun σ1 re1 => p1.here rs1 σ1 re1
  | ct e => exact fun σ1 re1 => p1.here rs1 σ1 re1
theorem d_pass : PS X (.Pass pos) (tS X.K X.mw W sNil) := by
  refine PS.imp ps_pass fun D' σ H h => ?_
  obtain ⟨env, S, o, ⟨rfl, re, rs⟩, p⟩ := h
  exact p.here rs σ re
theorem d_brk : PS X (.Break pos) (tS X.K X.mw W sBrk) := by
  refine PS.imp ps_break fun D' σ H h => ?_
  obtain ⟨env, S, o, ⟨rfl, re, rs⟩, p⟩ := h
  exact p.here rs σ re
theorem d_cnt : PS X (.Continue pos) (tS X.K X.mw W sCnt) := by
  refine PS.imp ps_continue fun D' σ H h => ?_
  obtain ⟨env, S, o, ⟨rfl, re, rs⟩, p⟩ := h
  exact p.here rs σ re
theorem d_expr (ha : PE X a (tE X.K X.mw W fa)) (hs : swapsWith a none pos.line X.env = pure false) : PS X (.Expr a pos) (tS X.K X.mw W (sExpr fa)) := by
  refine PS.imp (ps_expr ha hs) fun D' σ H h => ?_
  obtain ⟨env, S, o, ⟨rfl, re, rs⟩, p⟩ := h
  exact ⟨env, S, o, ⟨rfl, re, rs⟩, (Post.bind p).imp fun d S1 o1 l1 rs1 p1 v r => p1.here rs1 σ (re.up l1)⟩
theorem d_ret (ha : PE X a (tE X.K X.mw W fa)) : PS X (.Return (some a) pos) (tS X.K X.mw W (sRet fa)) := by
  refine PS.imp (ps_ret ha) fun D' σ H h => ?_
  obtain ⟨env, S, o, ⟨rfl, re, rs⟩, p⟩ := h
  exact ⟨env, S, o, ⟨rfl, re, rs⟩, (Post.bind p).imp fun d S1 o1 l1 rs1 p1 v r => p1.here rs1 v r⟩
theorem d_retN : PS X (.Return none pos) (tS X.K X.mw W sRetN) := by
  refine PS.imp ps_retN fun D' σ H h => ?_
  obtain ⟨env, S, o, ⟨rfl, re, rs⟩, p⟩ := h
  exact p.here rs _ .non
theorem d_if {p q : List Stmt} (hc : PT X c (tT X.K X.mw W ft)) (ha : PSs X p (tS X.K X.mw W f)) (hb : PSs X q (tS X.K X.mw W g)) : PS X (.If c p q pos) (tS X.K X.mw W (sIf ft f g)) := by
  refine PS.imp (ps_if hc ha hb) fun D' σ H h => ?_
  obtain ⟨env, S, o, ⟨rfl, re, rs⟩, p⟩ := h
  refine ⟨env, S, o, ⟨rfl, re, rs⟩, (Post.bind p).imp fun k S1 o1 l1 rs1 p1 => ?_⟩
  cases k with
  | true => exact ⟨env, S1, o1, ⟨rfl, re.up l1, rs1⟩, p1⟩
  | false => exact ⟨env, S1, o1, ⟨rfl, re.up l1, rs1⟩, p1⟩
/-! ### targets -/
theorem d_gnm {i : Nat} {x : Str} (hN : X.N.Nodup) (hi : X.N[i]? = some x) (hx : Loc X.env.scope x) (hf : X.fn x = true ∨ X.env.scope.names.lookup x = some .local) : PG X (.Name x pos) (tG X.K X.mw W [i] (gNm i)) := by
  refine PG.imp (pg_name hN hi hx hf) fun v σ H Q h => ?_
  obtain ⟨d, env, S, o, ⟨rfl, re, rs⟩, r, p⟩ := h
  exact p.here rs _ (re.set i r) SameBut.set
theorem d_gnil : PGs X [] (tGs X.K X.mw W [] []) := by
  refine PGs.imp pgs_nil fun vs σ H Q h => ?_
  obtain ⟨ds, env, S, o, ⟨rfl, re, rs⟩, r, p⟩ := h
  cases r with
  | nil => exact ⟨rfl, p.here rs σ re SameBut.refl⟩
  | cons r t => exact False.elim p
theorem d_gcons {g : FG} {gs : List FG} {c1 c2 : List Nat} (hW : Flat W) (h1 : PG X a (tG X.K X.mw W c1 g)) (h2 : PGs X es (tGs X.K X.mw W c2 gs)) (hs : (assignEach (a :: es) X.env).map (·.2) = assign a X.env :: (assignEach es X.env).map (·.2)) : PGs X (a :: es) (tGs X.K X.mw W (c1 ++ c2) (g :: gs)) := by
  refine PGs.imp (pgs_cons h1 h2 hs) fun vs σ H Q h => ?_
  obtain ⟨ds, env, S, o, ⟨rfl, re, rs⟩, r, p⟩ := h
  cases r with
  | nil => exact False.elim p
  | @cons d ds v vs r t =>
    refine ⟨v, vs, rfl, d, env, S, o, ⟨rfl, re, rs⟩, r, (Post.bind p).imp fun env1 S1 o1 l1 rs1 p1 σ1 re1 b1 => ?_⟩
    exact ⟨ds, env1, S1, o1, ⟨rfl, re1, rs1⟩, t.up l1, (p1.wish fun x o' h => wx_flat hW h).imp fun env2 S2 o2 l2 rs2 p2 σ2 re2 b2 => p2 σ2 re2 (b1.trans b2)⟩
theorem gAll_len {gs : List FG} : ∀ {ds : List D} {env : Env} {S : Sto}, gs.length ≠ ds.length → gAll gs ds env S = .stk ∨ ∃ x S', gAll gs ds env S = .exc x S' := by
  induction gs with
  | nil => intro ds env S h; cases ds with | nil => exact absurd rfl h | cons d ds => exact .inl rfl
  | cons g gs ih =>
    intro ds env S h
    cases ds with
    | nil => exact .inl rfl
    | cons d ds =>
      unfold gAll
      cases g d env S with
      | ok env1 S1 => exact ih fun e => h (by rw [List.length_cons, List.length_cons, e])
      | exc x S1 => exact .inr ⟨x, S1, rfl⟩
      | stk => exact .inl rfl
/-- plain names alone: no step of the targets raises -/
def Tame (g : FG) : Prop := ∀ d env S x S', g d env S ≠ .exc x S'
theorem tame_nm {i : Nat} : Tame (gNm i) := fun d env S x S' e => by cases e
theorem gAll_tame : ∀ {gs : List FG}, (∀ g ∈ gs, Tame g) → ∀ {ds : List D} {env : Env} {S : Sto} {x : Ex} {S' : Sto}, gAll gs ds env S ≠ .exc x S'
  | [], _, [], _, _, _, _ => fun e => by cases e
  | [], _, _ :: _, _, _, _, _ => fun e => by cases e
  | _ :: _, _, [], _, _, _, _ => fun e => by cases e
  | g :: gs, h, d :: ds, env, S, x, S' => fun e => by
    unfold gAll at e
    cases hg : g d env S with
    | ok env1 S1 => rw [hg] at e; exact gAll_tame (fun g' h' => h g' (List.mem_cons_of_mem _ h')) e
    | exc x1 S1 => exact h g List.mem_cons_self _ _ _ _ _ hg
    | stk => rw [hg] at e; cases e
theorem tame_tp {gs : List FG} (h : ∀ g ∈ gs, Tame g) : Tame (gTp gs) := fun d env S x S' e => by
  unfold gTp at e
  split at e
  · exact gAll_tame h e
  · cases e
theorem d_gtp {k : Nat} {gs : List FG} {ch : List Nat} (hc : X.calm = true) (ht : ∀ g ∈ gs, Tame g) (h : PGs X es (tGs X.K X.mw W ch gs)) (hn : (assignEach es X.env).length = gs.length) (hst : (assignEach es X.env).findIdx? (·.1) = none) : PG X (.Tuple es k pos) (tG X.K X.mw W ch (gTp gs)) := by
  refine PG.imp (pg_tup hc h hn hst) fun v σ H Q h => ?_
  obtain ⟨d, env, S, o, ⟨rfl, re, rs⟩, r, p⟩ := h
  cases r with
  | @tup a ds vs h1 p1 =>
    have hl : gs.length = ds.length := by
      by_cases e : gs.length = ds.length
      · exact e
      · have p : Post X.K X.mw _ _ o (gAll gs ds env S) := p
        rcases gAll_len (env := env) (S := S) e with z | ⟨x, S', z⟩
        · rw [z] at p; exact False.elim p
        · exact absurd z (gAll_tame ht)
    exact ⟨a, vs, rfl, h1, by rw [← p1.length, hl], ds, env, S, o, ⟨rfl, re, rs⟩, p1, p⟩
  | _ => exact False.elim p
def rSetD (K : PySem.W.Frag) (mw : MW) : TSet := fun x y v H Q => ∃ o d1 d2 d3 S S', o.H = H ∧ RD K mw o d1 x ∧ RD K mw o d2 y ∧ RD K mw o d3 v ∧ RS K mw o S ∧ setD d1 d2 d3 S = some S' ∧ ∀ o', Le K o o' → RS K mw o' S' → Q o'.H
theorem setd_ok : PSet X (rSetD X.K X.mw) := by
  intro pins s σ H x y z ov iv u Q I r1 r2 r3 hh
  obtain ⟨o, d1, d2, d3, S, S', rfl, q1, q2, q3, rs, e, q⟩ := hh
  unfold setD at e
  split at e
  · split at e
    · rename_i xs e1
      split at e
      · rename_i j ej
        cases e
        cases q2
        cases q1 with
        | @loc n a hn =>
        obtain ⟨vs, h1, p⟩ := rs.lst hn e1
        obtain ⟨a1, a2⟩ := rs.putL hn h1 (p.set q3 j)
        exact set_list pins s σ _ _ _ _ ov iv u Q I r1 r2 r3 ⟨a, vs, _, j, rfl, rfl, h1, by rw [← p.length]; exact ej, q _ a1 a2⟩
      · cases e
    · cases e
  · cases e
theorem d_asg {g : FG} {ch : List Nat} (ha : PE X a (tE X.K X.mw W fa)) (hg : PG X b (tG X.K X.mw W ch g)) (hs : swapsWithSole [b] a pos.line X.env = pure false) (hw : swappedStores [b] a X.env = pure none)
    (h1 : (assignEach [b] X.env).map (·.2) = [assign b X.env]) : PS X (.Assign [b] a pos) (tS X.K X.mw W (sAsg fa g)) := by
  refine PS.imp (ps_asg ha hg hs hw h1) fun D' σ H h => ?_
  obtain ⟨env, S, o, ⟨rfl, re, rs⟩, p⟩ := h
  refine ⟨env, S, o, ⟨rfl, re, rs⟩, (Post.bind p).imp fun d S1 o1 l1 rs1 p1 v r => ?_⟩
  exact ⟨d, env, S1, o1, ⟨rfl, re.up l1, rs1⟩, r, (Post.bind p1).imp fun env2 S2 o2 l2 rs2 p2 σ2 re2 _ => p2.here rs2 σ2 re2⟩
theorem d_par {i j : Nat} {x y : Str} {px py pt : Pos} {kt k2 : Nat} {pt2 : Pos} (hc : X.calm = true) (hN : X.N.Nodup) (hi : X.N[i]? = some x) (hj : X.N[j]? = some y) (hij : i ≠ j)
    (hx : X.env.scope.names.lookup x = some .local) (hy : X.env.scope.names.lookup y = some .local) (ha : PA X [a, b] (tA X.K X.mw W fr))
    (hw : swappedStores [.Tuple [.Name x px, .Name y py] kt pt] (.Tuple [a, b] k2 pt2) X.env = pure (some [x, y]))
    (hs : swapsWithSole [.Tuple [.Name x px, .Name y py] kt pt] (.Tuple [a, b] k2 pt2) pos.line X.env = pure false) :
    PS X (.Assign [.Tuple [.Name x px, .Name y py] kt pt] (.Tuple [a, b] k2 pt2) pos) (tS X.K X.mw W (sPar i j fr)) := by
  refine PS.imp (ps_par hc hN hi hj hij hx hy ha hw hs) fun D' σ H h => ?_
  obtain ⟨env, S, o, ⟨rfl, re, rs⟩, p⟩ := h
  refine ⟨env, S, o, ⟨rfl, re, rs⟩, (Post.bind p).imp fun ds S1 o1 l1 rs1 p1 vs r => ?_⟩
  split at p1
  · obtain ⟨v, w, rfl, r1, r2⟩ := r.two
    exact ⟨v, w, rfl, p1.here rs1 _ (((re.up l1).set i r1).set j r2)⟩
  · exact False.elim p1
theorem RDs.three {K : PySem.W.Frag} {mw : MW} {o : Wd} {d e f : D} {vs : List V} (h : RDs K mw o [d, e, f] vs) : ∃ u v w, vs = [u, v, w] ∧ RD K mw o d u ∧ RD K mw o e v ∧ RD K mw o f w := by
  cases h with
  | cons r t =>
    obtain ⟨v, w, rfl, r1, r2⟩ := t.two
    exact ⟨_, _, _, rfl, r, r1, r2⟩
theorem d_par3 {c : Expr} {i j l : Nat} {x y z : Str} {px py pz pt : Pos} {kt k2 : Nat} {pt2 : Pos} (hc : X.calm = true) (hN : X.N.Nodup) (hi : X.N[i]? = some x) (hj : X.N[j]? = some y) (hl : X.N[l]? = some z) (hij : i ≠ j) (hil : i ≠ l) (hjl : j ≠ l)
    (hx : X.env.scope.names.lookup x = some .local) (hy : X.env.scope.names.lookup y = some .local) (hz : X.env.scope.names.lookup z = some .local) (ha : PA X [a, b, c] (tA X.K X.mw W fr))
    (hw : swappedStores [.Tuple [.Name x px, .Name y py, .Name z pz] kt pt] (.Tuple [a, b, c] k2 pt2) X.env = pure (some [x, y, z])) :
    PS X (.Assign [.Tuple [.Name x px, .Name y py, .Name z pz] kt pt] (.Tuple [a, b, c] k2 pt2) pos) (tS X.K X.mw W (sPar3 i j l fr)) := by
  refine PS.imp (ps_par3 hc hN hi hj hl hij hil hjl hx hy hz ha hw rfl) fun D' σ H h => ?_
  obtain ⟨env, S, o, ⟨rfl, re, rs⟩, p⟩ := h
  refine ⟨env, S, o, ⟨rfl, re, rs⟩, (Post.bind p).imp fun ds S1 o1 l1 rs1 p1 vs r => ?_⟩
  split at p1
  · obtain ⟨u, v, w, rfl, r1, r2, r3⟩ := r.three
    exact ⟨u, v, w, rfl, p1.here rs1 _ ((((re.up l1).set i r1).set j r2).set l r3)⟩
  · exact False.elim p1
/-! ### name op= e -/
theorem d_aug {i : Nat} {x : Str} {op : Operator} {g : D → D → Sto → PR} {pos' : Pos} (hN : X.N.Nodup) (hi : X.N[i]? = some x) (hx : Loc X.env.scope x) (ha : PE X a (tE X.K X.mw W fa)) (ho : OpD X (inplaceOp op) g)
    (hf : X.fn x = true ∨ X.env.scope.names.lookup x = some .local) : PS X (.AugAssign (.Name x pos') op a pos) (tS X.K X.mw W (sAug i g fa)) := by
  refine PS.imp (ps_aug (ti := rDD X.K X.mw g) hN hi hx ha (fun pins s σ H x y v u Q I r1 r2 q => ho pins s σ H x y v u Q I r1 r2 q) hf) fun D' σ H h => ?_
  obtain ⟨env, S, o, ⟨rfl, re, rs⟩, p⟩ := h
  unfold sAug at p
  split at p
  · rename_i d e
    obtain ⟨v, hv, r⟩ := re.val i d e
    refine ⟨v, hv, env, S, o, ⟨rfl, re, rs⟩, (Post.bind p).imp fun d2 S1 o1 l1 rs1 p1 v2 r2 => ?_⟩
    obtain ⟨d3, S', e3, q⟩ := lift_post (Post.bind p1)
    exact ⟨o1, d, d2, S1, d3, S', rfl, r.up l1, r2, rs1, e3, fun o' z l rs rz => (q o' l rs).here rs _ ((re.up (l1.trans l)).set i rz)⟩
  · exact False.elim p
theorem iop_add : OpD X (inplaceOp .Add) iaddD := opd_int0 L2.iop_add fun d1 d2 S d S' e => by
  unfold iaddD at e
  split at e
  · cases e; exact ⟨_, _, rfl, rfl, rfl, rfl⟩
  · cases e
theorem iop_sub : OpD X (inplaceOp .Sub) subD := opd_int0 L2.iop_sub fun d1 d2 S d S' e => by
  unfold subD at e
  split at e
  · cases e; exact ⟨_, _, rfl, rfl, rfl, rfl⟩
  · cases e
end
end PV

set_option Elab.async false
set_option linter.all false
set_option maxRecDepth 100000
set_option maxHeartbeats 3999000
namespace PV
open L2 PyProof.Rows PySem PySem.Spec
section
variable {X : Cx} {pins : List (Addr × Obj)} {σ : L2.St} {s : Shared}
/-- an empty dict may be read as one with tuples for keys -/
theorem relabel {o : Wd} {a : Addr} (I : Inv X pins σ o.H s) (e : o.H a = some (.dK [])) : Inv X pins σ (upd o.H a (DictO a [])) s ∧ (a == sysModules) = false := by
  obtain ⟨z, hm, vs, rel, ob, es, ep, h1, h2, h3, h4⟩ := dk_of I.hok e
  cases rel
  refine ⟨?_, hm⟩
  have := d_write (t' := s.toks) (ob := DictO a []) I (by rw [e]; exact True.intro) (Heap.SameBut.refl a s.heap) ⟨ob, h1⟩ ⟨⟨ob, es, ep, h1, h2, h3, by have z := h4.2.1.length; simpa using z⟩, ⟨ob, h1⟩, fun g1 g2 ⟨o', ea, e', k1, k2⟩ k => ⟨o', ea, e', k _ k1, k2⟩⟩
  exact this
theorem RS.toDD {o : Wd} {S : Sto} {n : Nat} {a : Addr} (rs : RS X.K X.mw o S) (hn : o.rho[n]? = some a) (h : o.H a = some (.dK [])) (hm : (a == sysModules) = false) :
    Le X.K o ⟨o.rho, upd o.H a (DictO a [])⟩ ∧ RS X.K X.mw ⟨o.rho, upd o.H a (DictO a [])⟩ (S.set n (.dd [])) ∧ RSO X.K X.mw ⟨o.rho, upd o.H a (DictO a [])⟩ a (.dd []) := by
  have q : RSO X.K X.mw ⟨o.rho, upd o.H a (DictO a [])⟩ a (.dd []) := ⟨[], upd_same, by simp, hm, List.nodup_nil, .nil⟩
  exact ⟨Le.write hn h (fun _ z => nomatch z) (fun _ _ z => nomatch z), rs.write hn h (fun _ z => nomatch z) (fun _ _ z => nomatch z) q, q⟩
theorem dval_kv {K : PySem.W.Frag} {mw : MW} {o : Wd} {κ : Type} [DecidableEq κ] (k : κ) : ∀ {kvs : List (κ × D)} {ks : List (κ × V)}, RKs K mw o kvs ks → (dval kvs k = none ∧ valV ks k = none) ∨ ∃ d v, dval kvs k = some d ∧ valV ks k = some v ∧ RD K mw o d v
  | _, _, .nil => .inl ⟨rfl, rfl⟩
  | _, _, .cons (a := p) (b := q) h t => by
    by_cases e : p.1 = k
    · refine .inr ⟨p.2, q.2, ?_, valV_pos (by rw [← h.1]; exact e), h.2⟩
      simp [dval, e]
    · have ih := dval_kv k t
      have e2 : ¬ q.1 = k := by rw [← h.1]; exact e
      rw [valV_neg e2]
      simpa [dval, List.find?_cons, e] using ih
theorem keyS_v {K : PySem.W.Frag} {mw : MW} {o : Wd} {d : D} {v : V} {k : Key} (r : RD K mw o d v) (h : keyS d = some k) : v = kV k := by
  cases r <;> cases h <;> rfl
/-- what a look gives: how each way of looking goes -/
inductive Look (X : Cx) (pins : List (Addr × Obj)) (σ : L2.St) (s : Shared) (o : Wd) (a : Addr) (v : V) : Option D → Wd → Prop
  | k {kvs : List (Key × V)} {k : Key} {r : Option D} : o.H a = some (.dK kvs) → v = kV k → ((r = none ∧ valV kvs k = none) ∨ ∃ d z, r = some d ∧ valV kvs k = some z ∧ RD X.K X.mw o d z) → Look X pins σ s o a v r o
  | t {o' : Wd} {xs : List (TK × Addr × Value)} {k : TK} {b : Addr} {r : Option D} : v = .ref b → Inv X pins σ o'.H s → (a == sysModules) = false → (dataKind X.prog X.w).is s.heap k b → s.heap.DictOfH (dataKind X.prog X.w) a xs →
      ((r = none ∧ atKey xs k = none) ∨ ∃ d y, r = some d ∧ atKey xs k = some y ∧ ∃ z, RelV z y.2 ∧ RD X.K X.mw o' d z) → Look X pins σ s o a v r o'
theorem look_ok {o : Wd} {S S' : Sto} {n : Nat} {d : D} {v : V} {a : Addr} {r : Option D} (I : Inv X pins σ o.H s) (rs : RS X.K X.mw o S) (hn : o.rho[n]? = some a) (rd : RD X.K X.mw o d v) (h : dlook S n d = some (r, S')) :
    ∃ o', Le X.K o o' ∧ RS X.K X.mw o' S' ∧ Inv X pins σ o'.H s ∧ Look X pins σ s o a v r o' := by
  unfold dlook at h
  split at h
  · rename_i kvs e
    obtain ⟨b, eb, q⟩ := rs.obj n _ e
    rw [hn] at eb
    cases eb
    split at h
    · rename_i k ek
      cases h
      obtain ⟨h1, h2, ds, rfl⟩ := tkT_ok ek
      obtain ⟨xs, e1, e2, e3, e4, e5⟩ := dict_of I q
      cases rd with
      | @tup c _ vs hc pc =>
        refine ⟨o, .refl, rs, I, .t (k := k) (b := c) rfl I e3 (key_is I (by rw [h1]; exact .tup hc pc) h2) e4 ?_⟩
        exact dval_at (R := fun d y => ∃ z, RelV z y ∧ RD X.K X.mw o d z) (F := fun _ q => q.1.deep ≤ 8 ∧ RD X.K X.mw o (keyD q.1) (.ref q.2.1)) k (Paired.mapP e5 fun p q ⟨a1, a2, a3, a4⟩ => ⟨a1, ⟨a2, a3⟩, a4⟩)
    · cases h
  · rename_i kvs e
    obtain ⟨b, eb, q⟩ := rs.obj n _ e
    rw [hn] at eb
    cases eb
    obtain ⟨ks, e1, e2⟩ := q
    split at h
    · rename_i k ek
      cases h
      exact ⟨o, .refl, rs, I, .k e1 (keyS_v rd ek) (dval_kv k e2)⟩
    · split at h
      · rename_i k ek
        cases h
        cases e2
        obtain ⟨h1, h2, ds, rfl⟩ := tkT_ok ek
        obtain ⟨I2, hm⟩ := relabel I e1
        obtain ⟨l, rs2, q2⟩ := rs.toDD hn e1 hm
        obtain ⟨xs, f1, f2, f3, f4, f5⟩ := dict_of (o := ⟨o.rho, upd o.H a (DictO a [])⟩) I2 q2
        cases f5
        cases rd with
        | @tup c _ vs hc pc =>
          refine ⟨_, l, rs2, I2, .t (k := k) (b := c) rfl I2 f3 (key_is (o := ⟨o.rho, upd o.H a (DictO a [])⟩) I2 ?_ h2) f4 (.inl ⟨rfl, rfl⟩)⟩
          rw [h1]
          exact RD.up l (.tup hc pc)
      · cases h
  · cases h
theorem room8 {A : Around} (hu : A.units + 64 < cLine) : (dataKind X.prog X.w).room A.in1 := by
  show A.units + 1 + 8 < cLine
  omega
theorem opd_inDD (hu : X.A.units + 65 < cLine) : OpD X (compareOp .In) inDD := by
  intro pins s σ H x y v u Q I rx ry hh
  obtain ⟨o, d1, d2, S, d, S', rfl, r1, r2, rs, e, q⟩ := hh
  unfold inDD at e
  split at e
  · rename_i n hn
    have := isDc_loc hn
    subst this
    obtain ⟨⟨r, S1⟩, e1, e2⟩ := Option.map_eq_some_iff.mp e
    cases e2
    cases r2 with
    | @loc _ a hr =>
      cases ry
      obtain ⟨o', l, rs', I', L⟩ := look_ok I rs hr r1 e1
      have fin : ∀ s', Inv X pins σ o'.H s' → EP X pins σ Q (.bool r.isSome) s' := fun s' J => ⟨.bl _, o'.H, J, rfl, q o' _ l rs' (.bl _)⟩
      cases L with
      | @k kvs k _ g1 g2 g3 =>
        subst g2
        refine d_in (by omega) I (DGet.k g1) rx fun s' J => ?_
        have : (valV kvs k).isSome = r.isSome := by
          rcases g3 with ⟨z1, z2⟩ | ⟨d, z, z1, z2, _⟩ <;> rw [z1, z2] <;> rfl
        rw [this]
        exact fin s' J
      | @t _ xs k b _ g1 g2 g3 g4 g5 g6 =>
        subst g1
        cases (show v = Value.ref b from rx)
        refine wpAny_in_heap (room8 (by omega)) g4 g3 g5 ?_
        have : (atKey xs k).isSome = r.isSome := by
          rcases g6 with ⟨z1, z2⟩ | ⟨d, z, z1, z2, _⟩ <;> rw [z1, z2] <;> rfl
        rw [this]
        exact fin _ (I'.tok _)
  · exact opd_in hu pins s σ _ _ _ v u Q I rx ry ⟨o, d1, d2, S, d, S', rfl, r1, r2, rs, e, q⟩
theorem opd_notInDD (hu : X.A.units + 65 < cLine) : OpD X (compareOp .NotIn) notInDD := by
  intro pins s σ H x y v u Q I rx ry hh
  obtain ⟨o, d1, d2, S, d, S', rfl, r1, r2, rs, e, q⟩ := hh
  unfold notInDD at e
  split at e
  · rename_i n hn
    have := isDc_loc hn
    subst this
    obtain ⟨⟨r, S1⟩, e1, e2⟩ := Option.map_eq_some_iff.mp e
    cases e2
    cases r2 with
    | @loc _ a hr =>
      cases ry
      obtain ⟨o', l, rs', I', L⟩ := look_ok I rs hr r1 e1
      have fin : ∀ s', Inv X pins σ o'.H s' → EP X pins σ Q (.bool (!r.isSome)) s' := fun s' J => ⟨.bl _, o'.H, J, rfl, q o' _ l rs' (.bl _)⟩
      cases L with
      | @k kvs k _ g1 g2 g3 =>
        subst g2
        refine d_notIn (by omega) I (DGet.k g1) rx fun s' J => ?_
        have : (valV kvs k).isSome = r.isSome := by
          rcases g3 with ⟨z1, z2⟩ | ⟨d, z, z1, z2, _⟩ <;> rw [z1, z2] <;> rfl
        rw [this]
        exact fin s' J
      | @t _ xs k b _ g1 g2 g3 g4 g5 g6 =>
        subst g1
        cases (show v = Value.ref b from rx)
        refine wpAny_notIn_heap (room8 (by omega)) g4 g3 g5 ?_
        have : (atKey xs k).isSome = r.isSome := by
          rcases g6 with ⟨z1, z2⟩ | ⟨d, z, z1, z2, _⟩ <;> rw [z1, z2] <;> rfl
        rw [this]
        exact fin _ (I'.tok _)
  · exact opd_notIn hu pins s σ _ _ _ v u Q I rx ry ⟨o, d1, d2, S, d, S', rfl, r1, r2, rs, e, q⟩
theorem ixdd_ok (hu : X.A.units + 65 < cLine) : IxR X (rDD X.K X.mw ixDD) := by
  intro value slice pins s σ H x y v u Q I rx ry hh hsl
  obtain ⟨o, d1, d2, S, d, S', rfl, r1, r2, rs, e, q⟩ := hh
  unfold ixDD at e
  split at e
  · rename_i n hn
    have := isDc_loc hn
    subst this
    split at e
    · rename_i d' S1 e1
      cases e
      cases r1 with
      | @loc _ a hr =>
        cases rx
        obtain ⟨o', l, rs', I', L⟩ := look_ok I rs hr r2 e1
        cases L with
        | @k kvs k _ g1 g2 g3 =>
          rcases g3 with ⟨z1, z2⟩ | ⟨d, z, z1, z2, z3⟩
          · cases z1
          cases z1
          subst g2
          refine tail_any (dict_typeIs I (DGet.k (k := k) g1)) PySem.F.slot_dict_getitem.lookup (d_getItem (by omega) I (v := z) (by rw [← z2]; exact DGet.k g1) ry fun w' s' J rw' => ⟨z, o.H, J, rw', q o _ l rs' z3⟩) hsl
        | @t _ xs k b _ g1 g2 g3 g4 g5 g6 =>
          rcases g6 with ⟨z1, z2⟩ | ⟨d, yy, z1, z2, z, z3, z4⟩
          · cases z1
          cases z1
          subst g1
          obtain rfl : u = Value.ref b := ry
          exact tail_any g5.typeIs PySem.F.slot_dict_getitem.lookup (wpAny_getItem_heap (room8 (by omega)) g4 g5 z2 ⟨z, o'.H, I'.tok _, z3, q o' _ l rs' z4⟩) hsl
    · cases e
  · exact ixd_seq value slice pins s σ _ _ _ v u Q I rx ry ⟨o, d1, d2, S, d, S', rfl, r1, r2, rs, e, q⟩ hsl
/-! d[k] = v -/
theorem paired_map {α β γ δ : Type} {F : α → β → Prop} {G : γ → δ → Prop} {f : α → γ} {g : β → δ} (hf : ∀ a b, F a b → G (f a) (g b)) : ∀ {l : List α} {m : List β}, Paired F l m → Paired G (l.map f) (m.map g)
  | _, _, .nil => .nil
  | _, _, .cons r t => .cons (hf _ _ r) (paired_map hf t)
theorem paired_snoc {α β : Type} {F : α → β → Prop} {a : α} {b : β} (h : F a b) : ∀ {l : List α} {m : List β}, Paired F l m → Paired F (l ++ [a]) (m ++ [b])
  | _, _, .nil => .cons h .nil
  | _, _, .cons r t => .cons r (paired_snoc h t)
theorem dput_kv {K : PySem.W.Frag} {mw : MW} {o : Wd} {κ : Type} [DecidableEq κ] (k : κ) {d : D} {v : V} (rv : RD K mw o d v) {kvs : List (κ × D)} {ks : List (κ × V)} (h : RKs K mw o kvs ks) : RKs K mw o (dput kvs k d) (putK ks k v) := by
  have h1 : (dval kvs k).isSome = (ks.any fun kv => decide (kv.1 = k)) := by
    rw [valV_any]
    rcases dval_kv k h with ⟨a, b⟩ | ⟨d, z, a, b, _⟩ <;> rw [a, b] <;> rfl
  unfold dput putK
  rw [h1]
  split
  · refine paired_map (fun a b r => ?_) h
    by_cases e : a.1 = k
    · simp only [if_pos e, if_pos (show b.1 = k by rw [← r.1]; exact e)]
      exact ⟨r.1, rv⟩
    · simp only [if_neg e, if_neg (show ¬ b.1 = k by rw [← r.1]; exact e)]
      exact r
  · exact paired_snoc ⟨rfl, rv⟩ h
abbrev PrT (K : PySem.W.Frag) (mw : MW) (o : Wd) : List (TK × D) → List (TK × Addr × Value) → Prop := Paired (fun (p : TK × D) (q : TK × Addr × Value) => p.1 = q.1 ∧ q.1.deep ≤ 8 ∧ RD K mw o (keyD q.1) (.ref q.2.1) ∧ ∃ v, RelV v q.2.2 ∧ RD K mw o p.2 v)
theorem prT_look {K : PySem.W.Frag} {mw : MW} {o : Wd} (k : TK) {kvs : List (TK × D)} {xs : List (TK × Addr × Value)} (h : PrT K mw o kvs xs) : (dval kvs k).isSome = (atKey xs k).isSome := by
  rcases dval_at (R := fun d y => ∃ z, RelV z y ∧ RD K mw o d z) (F := fun _ q => q.1.deep ≤ 8 ∧ RD K mw o (keyD q.1) (.ref q.2.1)) k (Paired.mapP h fun p q ⟨a1, a2, a3, a4⟩ => ⟨a1, ⟨a2, a3⟩, a4⟩) with ⟨a, b⟩ | ⟨d, z, a, b, _⟩ <;> rw [a, b] <;> rfl
theorem dput_t {K : PySem.W.Frag} {mw : MW} {o : Wd} {k : TK} {b : Addr} {d : D} {v : V} {u : Value} (hk : RD K mw o (keyD k) (.ref b)) (hd : k.deep ≤ 8) (rv : RD K mw o d v) (ru : RelV v u) {kvs : List (TK × D)} {xs : List (TK × Addr × Value)} (h : PrT K mw o kvs xs) :
    PrT K mw o (dput kvs k d) (storedH xs k b u) := by
  have h1 := prT_look k h
  unfold dput storedH
  rw [h1]
  split
  · refine paired_map (fun a c r => ?_) h
    unfold putAt
    by_cases e : a.1 = k
    · simp only [if_pos e, if_pos (show c.1 = k by rw [← r.1]; exact e)]
      exact ⟨r.1, r.2.1, r.2.2.1, v, ru, rv⟩
    · simp only [if_neg e, if_neg (show ¬ c.1 = k by rw [← r.1]; exact e)]
      exact r
  · exact paired_snoc ⟨rfl, hd, hk, v, ru, rv⟩ h
theorem dput_len {κ : Type} [DecidableEq κ] (kvs : List (κ × D)) (k : κ) (d : D) : (dput kvs k d).length ≤ kvs.length + 1 := by
  unfold dput
  split <;> simp
def setDD (o i d : D) (S : Sto) : Option Sto := match isDc S o with
  | some n => dstore S n i d
  | none => setD o i d S
def rSetDD (K : PySem.W.Frag) (mw : MW) : TSet := fun x y v H Q => ∃ o d1 d2 d3 S S', o.H = H ∧ RD K mw o d1 x ∧ RD K mw o d2 y ∧ RD K mw o d3 v ∧ RS K mw o S ∧ setDD d1 d2 d3 S = some S' ∧ ∀ o', Le K o o' → RS K mw o' S' → Q o'.H
/-- a dict with tuples for keys is written -/
theorem set_t {o : Wd} {S : Sto} {n : Nat} {a b : Addr} {kvs : List (TK × D)} {k : TK} {d : D} {v : V} {u : Value} {Q : Hp → Prop} (hu : X.A.units + 65 < cLine) (I : Inv X pins σ o.H s) (rs : RS X.K X.mw o S) (hn : o.rho[n]? = some a) (hS : S[n]? = some (.dd kvs)) (hk : RD X.K X.mw o (keyD k) (.ref b)) (hd : k.deep ≤ 8)
    (rv : RD X.K X.mw o d v) (ru : RelV v u) (hl : kvs.length < sizeLine) (q : ∀ o', Le X.K o o' → RS X.K X.mw o' (S.set n (.dd (dput kvs k d))) → Q o'.H) :
    wpAny (model X.prog X.w) X.A (setItem (.ref a) (.ref b) u) (fun _ s' => ∃ H', Inv X pins σ H' s' ∧ Q H') X.xe s := by
  obtain ⟨a', ea, qo⟩ := rs.obj n _ hS
  rw [hn] at ea
  cases ea
  obtain ⟨xs, e1, e2, e3, e4, e5⟩ := dict_of I qo
  have hz : xs.length ≤ sizeLine := by rw [← Paired.length e5]; exact e2
  refine wpAny_setItem_heap (hsz := hz) (room8 (by omega)) (key_is I hk hd) e4 fun h' dd' hs => ?_
  obtain ⟨ob, es, ep, g1, g2, g3, g4, _, g5⟩ := dd'
  have I2 : Inv X pins σ (upd o.H a (DictO a ((storedH xs k b u).map (entT X.w)))) { s with heap := h', toks := s.toks + (dataKind X.prog X.w).draws k } :=
    d_write I (by rw [e1]; exact True.intro) hs ⟨ob, g1⟩ ⟨⟨ob, es, ep, g1, g2, g3, g4⟩, ⟨ob, g1⟩, fun m1 m2 ⟨o', ea, e', k1, k2⟩ k => ⟨o', ea, e', k _ k1, k2⟩⟩
  have l : Le X.K o ⟨o.rho, upd o.H a (DictO a ((storedH xs k b u).map (entT X.w)))⟩ := Le.write hn e1 (fun _ z => nomatch z) (fun _ _ z => nomatch z)
  refine ⟨_, I2, q ⟨o.rho, upd o.H a (DictO a ((storedH xs k b u).map (entT X.w)))⟩ l (rs.write hn e1 (fun _ z => nomatch z) (fun _ _ z => nomatch z) ⟨_, upd_same, ?_, e3, g5, ?_⟩)⟩
  · have := dput_len kvs k d
    omega
  · exact Paired.mapP (dput_t hk hd rv ru e5) fun p q ⟨a1, a2, a3, z, a4, a5⟩ => ⟨a1, a2, a3.up l, z, a4, a5.up l⟩
theorem setdd_ok (hu : X.A.units + 65 < cLine) : PSet X (rSetDD X.K X.mw) := by
  intro pins s σ H x y z ov iv u Q I r1 r2 r3 hh
  obtain ⟨o, d1, d2, d3, S, S', rfl, q1, q2, q3, rs, e, q⟩ := hh
  unfold setDD at e
  split at e
  · rename_i n hn
    have := isDc_loc hn
    subst this
    cases q1 with
    | @loc _ a hr =>
    cases r1
    unfold dstore at e
    split at e
    · rename_i kvs hS
      split at e
      · rename_i k ek
        split at e
        · rename_i hl
          cases e
          obtain ⟨h1, h2, ds, rfl⟩ := tkT_ok ek
          cases q2 with
          | @tup c _ vs hc pc =>
            cases (show iv = Value.ref c from r2)
            exact set_t hu I rs hr hS (by rw [h1]; exact .tup hc pc) h2 q3 r3 hl q
        · cases e
      · cases e
    · rename_i kvs hS
      obtain ⟨a', ea, ks, g1, g2⟩ := rs.obj n _ hS
      rw [hr] at ea
      cases ea
      split at e
      · rename_i k ek
        split at e
        · rename_i hl
          cases e
          have := keyS_v q2 ek
          subst this
          have hl2 : ks.length < sizeLine := by rw [← Paired.length g2]; exact hl
          refine d_setItem (by omega) I (DPut.k g1 hl2) r2 r3 fun s' J => ⟨_, J, ?_⟩
          have l : Le X.K o ⟨o.rho, upd o.H a (.dK (putK ks k z))⟩ := Le.write hr g1 (fun _ z => nomatch z) (fun _ _ z => nomatch z)
          exact q ⟨o.rho, upd o.H a (.dK (putK ks k z))⟩ l (rs.write hr g1 (fun _ z => nomatch z) (fun _ _ z => nomatch z) ⟨_, upd_same, (dput_kv k q3 g2).upV l.toLeV⟩)
        · cases e
      · split at e
        · rename_i k ek
          cases e
          cases g2
          obtain ⟨h1, h2, ds, rfl⟩ := tkT_ok ek
          obtain ⟨I2, hm⟩ := relabel I g1
          obtain ⟨l, rs2, q2'⟩ := rs.toDD hr g1 hm
          have hlt : n < S.length := (List.getElem?_eq_some_iff.mp hS).1
          cases q2 with
          | @tup c _ vs hc pc =>
            cases (show iv = Value.ref c from r2)
            refine set_t (o := ⟨o.rho, upd o.H a (DictO a [])⟩) (kvs := []) hu I2 rs2 hr (by rw [List.getElem?_set_self hlt]) (k := k) (by rw [h1]; exact RD.up l (.tup hc pc)) h2 (q3.up l) r3 (by decide) fun o' l' rs' => ?_
            refine q o' (l.trans l') ?_
            rw [List.set_set] at rs'
            exact rs'
        · cases e
    · cases e
  · exact setd_ok pins s σ _ _ _ _ ov iv u Q I r1 r2 r3 ⟨o, d1, d2, d3, S, S', rfl, q1, q2, q3, rs, e, q⟩
theorem d_ix {a b : Expr} {fa fb : FE} {W : WX} {pos : Pos} (ha : PE X a (tE X.K X.mw W fa)) (hb : PE X b (tE X.K X.mw W fb)) (hs : PlainIx b) (hu : X.A.units + 65 < cLine) : PE X (.Subscript a b pos) (tE X.K X.mw W (eBin ixDD fa fb)) := by
  refine PE.imp (pe_ix (ixdd_ok hu) ha hb hs) fun σ H Q h => ?_
  obtain ⟨env, S, o, ⟨rfl, re, rs⟩, p⟩ := h
  refine ⟨env, S, o, ⟨rfl, re, rs⟩, (Post.bind p).imp fun d1 S1 o1 l1 rs1 p1 v1 r1 => ?_⟩
  refine ⟨env, S1, o1, ⟨rfl, re.up l1, rs1⟩, (Post.bind p1).imp fun d2 S2 o2 l2 rs2 p2 v2 r2 => ?_⟩
  obtain ⟨d, S', e, q⟩ := lift_post p2
  exact ⟨o2, d1, d2, S2, d, S', rfl, r1.up l2, r2, rs2, e, fun o' v l rs r => q o' l rs v r⟩

def gSb (fo fi : FE) : FG := fun d env S => (fo env S).bind fun o S1 => (fi env S1).bind fun i S2 => match setDD o i d S2 with
  | some S3 => .ok env S3
  | none => .stk
theorem d_gsb {W : WX} {a b : Expr} {fa fb : FE} {pos : Pos} (hu : X.A.units + 65 < cLine) (ha : PE X a (tE X.K X.mw W fa)) (hb : PE X b (tE X.K X.mw W fb)) (hp : ∀ {ta tb : TE} {t : TSet}, PE X a ta → PE X b tb → PSet X t → PG X (.Subscript a b pos) (gSub ta tb t))
    : PG X (.Subscript a b pos) (tG X.K X.mw W [] (gSb fa fb)) := by
  refine PG.imp (hp ha hb (setdd_ok hu)) fun v σ H Q h => ?_
  obtain ⟨d, env, S, o, ⟨rfl, re, rs⟩, r, p⟩ := h
  refine ⟨env, S, o, ⟨rfl, re, rs⟩, (Post.bind p).imp fun d1 S1 o1 l1 rs1 p1 v1 r1 => ?_⟩
  refine ⟨env, S1, o1, ⟨rfl, re.up l1, rs1⟩, (Post.bind p1).imp fun d2 S2 o2 l2 rs2 p2 v2 r2 => ?_⟩
  split at p2
  · rename_i S3 e
    exact ⟨o2, d1, d2, d, S2, S3, rfl, r1.up l2, r2, r.up (l1.trans l2), rs2, e, fun o' l rs => p2 o' l rs σ (re.up ((l1.trans l2).trans l)) SameBut.refl⟩
  · exact False.elim p2
/-! {} -/
def eDn : FE := fun _ S => .ok (.loc S.length) (S ++ [.dk []])
theorem d_dnew {W : WX} {pos : Pos} : PE X (.Dict [] [] pos) (tE X.K X.mw W eDn) := by
  refine PE.imp pe_dnewK fun σ H Q h => ?_
  obtain ⟨env, S, o, ⟨rfl, re, rs⟩, p⟩ := h
  intro q hq
  have l : Le X.K o ⟨o.rho ++ [q], upd o.H q (.dK [])⟩ := Le.alloc hq
  exact p _ l (rs.alloc hq ⟨[], upd_same, .nil⟩) _ (alloc_loc rs)
end
end PV

set_option Elab.async false
set_option linter.all false
set_option maxRecDepth 100000
set_option maxHeartbeats 3999000
/-! ### enumerate(v), one argument, v told by how it begins -/
namespace PySem
/-- a new enumerate over the iterator at it -/
def pvEnum (it : Addr) : Obj := { cls := .type "enumerate", data := .fields #[.none, .bool false, .ref it, rawInt 0, .none, .none] }
theorem pv_new_enum {v : Value} {o : Obj} {H : Heap → Prop} (B : Begins v o H) : Meets (Builtin.«enumerate.__new__» ⟨[.type "enumerate", v], []⟩)
    (fun _ R s => H s.heap ∧ R (.ok (.ret (.ref (s.heap.push o).objs.size))) { s with heap := (s.heap.push o).push (pvEnum s.heap.objs.size) }) :=
  .of_wp fun prog w A R ⟨hp, g, d, tk, os⟩ ⟨h1, h2⟩ => by
    have sub := sub_enumerate
    have go : ∀ {A' E Q}, Q (.ref hp.objs.size) ⟨hp.push o, g, d, tk, os⟩ → wpAny (model prog w) A' (pyIter v) Q E ⟨hp, g, d, tk, os⟩ := fun q => B.iter prog w _ _ _ _ h1 q
    wp_walk using go
    exact wpAny_stack_any fun st => wpAny_pure (by
      split
      case h_1 c _ _ _ _ _ => cases c == Value.type "enumerate" <;> (wp_walk using go; exact ⟨_, rfl, h2⟩)
      all_goals (wp_walk using go; exact ⟨_, rfl, h2⟩))
theorem pv_call_enum {prog : Program} {w : World} {A : Around} {E : Value → Shared → Prop} {s : Shared} {v : Value} {o : Obj} {H : Heap → Prop} {Q : Value → Shared → Prop} (B : Begins v o H) (h1 : H s.heap)
    (h : ∀ h', IsEnum h' (s.heap.objs.size + 1) s.heap.objs.size 0 .none → h'.get? s.heap.objs.size = some o → (∀ b x, s.heap.get? b = some x → h'.get? b = some x) → Q (.ref (s.heap.objs.size + 1)) { s with heap := h' }) :
    wpAny (model prog w) A (call (.type "enumerate") [v]) Q E s := by
  have sz : (s.heap.push o).objs.size = s.heap.objs.size + 1 := Heap.size_push ..
  have he : IsEnum ((s.heap.push o).push (pvEnum s.heap.objs.size)) (s.heap.objs.size + 1) s.heap.objs.size 0 .none := sz ▸ Heap.get?_push_size (s.heap.push o) (o := pvEnum s.heap.objs.size) rfl
  exact callType_new F.called_enumerate (by decide) (F.typeCall_enumerate_1 v) (F.newCall_enumerate_1 v) (fun obj => F.args_object_init_2 obj v) F.entry_enumerate_new (pv_new_enum B)
    ⟨h1, sz.symm ▸ ⟨⟨_, he, rfl⟩, h _ he (Heap.get?_push_of_some _ (Heap.get?_push_size _ B.free)) fun b x q => Heap.get?_push_of_some _ (Heap.get?_push_of_some _ q)⟩⟩
end PySem
namespace PV
open PySem PySem.Spec
open PyProof.Rows L2
/-- the tuple at a, of n items, each item in a new pair -/
def IteT (K : PySem.W.Frag) (a : Addr) (n : Nat) : It where
  go i H := ∃ (xs : List V) (x : V), SqT K H a xs ∧ xs.length = n ∧ xs[i]? = some x
  yld i H v H' := ∃ T x, v = .ref T ∧ H T = none ∧ H' = upd H T (.tup [.int (i : Nat), x]) ∧ ∀ xs, SqT K H a xs → xs[i]? = some x
  stop i H := ∃ xs : List V, SqT K H a xs ∧ xs.length = n ∧ n ≤ i
/-- where such a walk stands -/
structure EnT (a e it : Addr) (n i : Nat) (h : Heap) : Prop where
  en : ∃ old, IsEnum h e it ((i : Nat) : Int) old
  ti : h.IsTupleIter it a i
  le : i ≤ n
/-- the kit's walk over pairs, here -/
theorem en_walk {P : Program} {w : World} {A : Around} {a e it : Addr} (hd : A.handled = none) (hai : a ≠ it) (hae : a ≠ e) (hei : e ≠ it) (items : Array Value) :
    WalksT P w A e [e, it, a] [e, it] items.size (fun i vals => ∃ t x, items[i]? = some x ∧ vals = #[.int i t, x]) (fun i h => (∃ old, IsEnum h e it i old) ∧ h.IsTupleIter it a i ∧ h.IsTuple a items)
      (fun i T h => (∃ x, IsEnumOut h e it ((i : Int) + 1) x T) ∧ (h.IsTupleIter it a (i + 1) ∧ h.IsTuple a items) ∧ T ≠ e ∧ T ≠ it) :=
  WalksT.enumerateD (Draws.tuple (A := A.in1) hd it a hai items) e hei (by simp [hei, Ne.symm hae]) (by simp)
theorem turn_enumT {P : Program} {w : World} {K : PySem.W.Frag} {elts : List Expr} {kk n : Nat} {tpos : Pos} (a e it : Addr) (hai : a ≠ it) (hae : a ≠ e) (hei : e ≠ it) :
    Turn P w K (.Tuple elts kk tpos) (IteT K a n) [e, it] e (EnT a e it n) where
  mem := List.mem_cons_self ..
  obj i h st b hb := by
    match List.mem_cons.mp hb with
    | .inl z => have ⟨_, q⟩ := st.en; exact z ▸ ⟨_, q, fun _ z => nomatch z⟩
    | .inr z => have ⟨o, q, _, d⟩ := st.ti; exact (List.mem_singleton.mp z) ▸ ⟨o, q, fun _ z => nomatch d.symm.trans z⟩
  keep i h h' st k := ⟨st.en.imp fun _ q => k e (by simp) _ q, st.ti.at (k it (by simp)), st.le⟩
  self A i s Q E st h := st.en.elim fun _ q => wpAny_pyIter_enum q h
  item X hP hw hK hc i pins s σ H E I hf st hg := by
    obtain ⟨xs, x, hq, hn, hx⟩ := hg
    subst hP hw hK
    have ⟨its, rv, p, _⟩ := I.tuple hq
    have ⟨u, hu, ru⟩ := rv.get hx
    have hlt := (List.getElem?_eq_some_iff.mp hu).1
    have W := en_walk (P := X.prog) (w := X.w) (I.ok.hd hc) hai hae hei its.toArray
    refine W.item i s _ E hlt ⟨st.en, st.ti, p⟩ fun T vals h' tk hv hT tup mid k1 => ⟨_, rfl, W.go elts kk tpos i T _ _ E mid fun h'' st2 k2 => ?_⟩
    obtain ⟨t, y, hy, rfl⟩ := hv
    obtain rfl : y = u := Option.some.inj (hy.symm.trans (List.getElem?_toArray ▸ hu))
    have new : ObjOk X.prog X.w (upd H T (.tup [.int (i : Nat), x])) h'' T (.tup [.int (i : Nat), x]) :=
      ⟨by show 2 ≤ sizeLine; decide, _, .cons ⟨t, rfl⟩ (.cons ru .nil), tup.at fun o q => k2 T o (W.apart i T h' mid) q⟩
    refine ⟨.ref T, _, I.turnedNew (fun b o hb q => k2 b o hb (k1 b o hb q)) hf hT new, rfl, ⟨T, x, rfl, I.hok.fresh hT, rfl, fun ys hy => (I.tuple_inj hy hq) ▸ hx⟩, ⟨st2.1, st2.2.1, ?_⟩, fun b hb => ?_⟩
    · have := rv.length; omega
    · have ⟨o, q, _⟩ : ∃ o, s.heap.get? b = some o ∧ True := by
        match List.mem_cons.mp hb with
        | .inl z => have ⟨_, q⟩ := st.en; exact z ▸ ⟨_, q, trivial⟩
        | .inr z => have ⟨o, q, _⟩ := st.ti; exact (List.mem_singleton.mp z) ▸ ⟨o, q, trivial⟩
      have lb := Heap.lt_size q
      rw [upd_ne (Nat.ne_of_lt (Nat.lt_of_lt_of_le lb hT))]
      exact (hf b hb).1
  done X hP hw hK hc i pins s σ H E I hf st hg := by
    obtain ⟨xs, hq, hn, hx⟩ := hg
    subst hP hw hK
    have ⟨its, rv, p, _⟩ := I.tuple hq
    have ei : i = its.toArray.size := by have := rv.length; have := st.le; simp; omega
    have ⟨s1, s2, _⟩ := st
    subst ei
    exact (en_walk (I.ok.hd hc) hai hae hei its.toArray).done s _ E ⟨s1, s2, p⟩ fun h' tk k => ⟨rfl, I.turnedL k hf⟩
def iEnumA (K : PySem.W.Frag) (ta : TA) : TI := fun σ H R => ta σ H fun vs H1 => ∃ a xs, vs = [.ref a] ∧ ((SqL K H1 a xs ∧ R (Ite K a) H1) ∨ (SqT K H1 a xs ∧ R (IteT K a xs.length) H1))
theorem pi_enumA {X : Cx} {e : Expr} {ta : TA} {p pos tpos : Pos} {elts : List Expr} {kk : Nat} (hg : Gl X "enumerate") (hm : X.mg "enumerate" = none) (ha : PA X [e] ta) (hs : starEach [e] X.env = [(false, eval e X.env)]) :
    PI X (.Tuple elts kk tpos) (.Call (.Name "enumerate" p) [e] [] pos) (iEnumA X.K ta) := by
  refine ⟨fun pins s σ H R I h => Call_ (ld_blt I hg hm boot_enumerate (PyProof.Rows.callWith_type1 (thn (ha.run pos pins s σ H _ I h) fun us s1 ⟨vs, H1, I1, r1, a, xs, ex, q1⟩ => ?_) hs rfl))⟩
  subst ex
  obtain ⟨u, eu, ru⟩ : ∃ u, us = [u] ∧ u = Value.ref a := by
    cases r1 with
    | cons r z => cases z; exact ⟨_, rfl, r⟩
  subst ru eu
  have young : ∀ b, b ∈ [s1.heap.objs.size + 1, s1.heap.objs.size] → FpOk X pins H1 b := fun b hb => by
    have le : s1.heap.objs.size ≤ b := by
      match List.mem_cons.mp hb with
      | .inl z => exact z ▸ Nat.le_succ _
      | .inr z => exact Nat.le_of_eq (List.mem_singleton.mp z).symm
    exact I1.fpOk le (I1.hok.fresh le)
  match q1 with
  | .inl ⟨hq, q⟩ =>
      have ⟨its, _, p', _⟩ := I1.list hq
      exact pv_call_enum (begins_list _ its.toArray) p'.isList fun h' he hit hk => wpAny_pyIter_enum he ⟨_, _, _, _, H1, rfl, I1.kept (t' := s1.toks) hk, turn_enum a _ _, ⟨⟨.none, he⟩, ⟨_, hit, rfl, rfl⟩, Nat.succ_ne_self _⟩, young, q⟩
  | .inr ⟨hq, q⟩ =>
      have ⟨its, _, p', _⟩ := I1.tuple hq
      have la : a < s1.heap.objs.size := by have ⟨_, z, _⟩ := p'; exact Heap.lt_size z
      exact pv_call_enum (begins_tuple _ its.toArray) p' fun h' he hit hk => wpAny_pyIter_enum he ⟨_, _, _, _, H1, rfl, I1.kept (t' := s1.toks) hk, turn_enumT a _ _ (Nat.ne_of_lt la) (Nat.ne_of_lt (Nat.lt_succ_of_lt la)) (Nat.succ_ne_self _), ⟨⟨.none, he⟩, ⟨_, hit, rfl, rfl⟩, Nat.zero_le _⟩, young, q⟩
end PV

set_option Elab.async false
set_option linter.all false
set_option maxRecDepth 100000
set_option maxHeartbeats 3999000
namespace PV
open L2 PyProof.Rows PySem PySem.Spec

/-! ### what is walked -/
inductive IT where
  | items (ds : List D) | live (n : Nat) | enum (ds : List D) | enumL (n : Nat) | zipL (n m : Nat)
def nxt : IT → Nat → Sto → Option (Option D)
  | .items ds, i, _ => some ds[i]?
  | .live n, i, S => (match lstAt S n with
    | some ds => some ds[i]?
    | none => none)
  | .enum ds, i, _ => some (ds[i]?.map fun d => .tup [.int (i : Nat), d])
  | .enumL n, i, S => (match lstAt S n with
    | some ds => some (ds[i]?.map fun d => .tup [.int (i : Nat), d])
    | none => none)
  | .zipL n m, i, S => (match lstAt S n, lstAt S m with
    | some ds, some es => some (match ds[i]?, es[i]? with
      | some d, some e => some (.tup [d, e])
      | _, _ => none)
    | _, _ => none)
def turns : IT → Sto → Nat
  | .items ds, _ => ds.length
  | .live n, S => ((lstAt S n).getD []).length
  | .enum ds, _ => ds.length
  | .enumL n, S => ((lstAt S n).getD []).length
  | .zipL n _, S => ((lstAt S n).getD []).length
abbrev FI := Env → Sto → Out IT
def itOf (d : D) (S : Sto) : Option IT := match d with
  | .tup ds => some (.items ds)
  | .fz ds => some (.items ds)
  | .loc n => (match lstAt S n with
    | some _ => some (.live n)
    | none => none)
  | _ => none
def iSeq (fe : FE) : FI := fun env S => (fe env S).bind fun d S1 => match itOf d S1 with
  | some it => .ok it S1
  | none => .stk
/-- lo, lo + 1, .. -/
def upTo (lo : Int) : Nat → List D
  | 0 => []
  | n + 1 => .int lo :: upTo (lo + 1) n
/-- hi, hi - 1, .. -/
def dnTo (hi : Int) : Nat → List D
  | 0 => []
  | n + 1 => .int hi :: dnTo (hi - 1) n
def small62 (i : Int) : Bool := decide (-(2 ^ 62) ≤ i ∧ i < 2 ^ 62)
def iRg (fa : FA) : FI := fun env S => (fa env S).bind fun ds S1 => match ds with
  | [.int j] => if small62 j = true then .ok (.items (upTo 0 j.toNat)) S1 else .stk
  | [.int i, .int j] => if small62 i = true ∧ small62 j = true then .ok (.items (upTo i (j - i).toNat)) S1 else .stk
  | [.int i, .int j, .int c] => if c = -1 ∧ small62 i = true ∧ small62 j = true then .ok (.items (dnTo i (i - j).toNat)) S1 else .stk
  | _ => .stk
def iEn (fa : FA) : FI := fun env S => (fa env S).bind fun ds S1 => match ds with
  | [.loc n] => (match lstAt S1 n with
    | some _ => .ok (.enumL n) S1
    | none => .stk)
  | [.fz ds] => .ok (.enum ds) S1
  | [.tup ds] => .ok (.enum ds) S1
  | _ => .stk
def iZp (fa : FA) : FI := fun env S => (fa env S).bind fun ds S1 => match ds with
  | [.loc n, .loc m] => (match lstAt S1 n, lstAt S1 m with
    | some _, some _ => .ok (.zipL n m) S1
    | _, _ => .stk)
  | _ => .stk
theorem upTo_length : ∀ (n : Nat) (lo : Int), (upTo lo n).length = n
  | 0, _ => rfl
  | n + 1, lo => by rw [upTo, List.length_cons, upTo_length n]
theorem upTo_get : ∀ (n : Nat) (lo : Int) (i : Nat), i < n → (upTo lo n)[i]? = some (.int (lo + i))
  | 0, _, _, h => absurd h (Nat.not_lt_zero _)
  | n + 1, lo, 0, _ => by simp [upTo]
  | n + 1, lo, i + 1, h => by
    rw [upTo, List.getElem?_cons_succ, upTo_get n (lo + 1) i (Nat.lt_of_succ_lt_succ h)]
    congr 2
    omega
theorem dnTo_length : ∀ (n : Nat) (hi : Int), (dnTo hi n).length = n
  | 0, _ => rfl
  | n + 1, hi => by rw [dnTo, List.length_cons, dnTo_length n]
theorem dnTo_get : ∀ (n : Nat) (hi : Int) (i : Nat), i < n → (dnTo hi n)[i]? = some (.int (hi + (i : Nat) * (-1)))
  | 0, _, _, h => absurd h (Nat.not_lt_zero _)
  | n + 1, hi, 0, _ => by simp [dnTo]
  | n + 1, hi, i + 1, h => by
    rw [dnTo, List.getElem?_cons_succ, dnTo_get n (hi - 1) i (Nat.lt_of_succ_lt_succ h)]
    congr 2
    omega
section
variable (K : PySem.W.Frag) (mw : MW)
def RIt (o : Wd) (it : IT) (J : It) : Prop := ∀ (o' : Wd) (S : Sto) (i : Nat), LeV K o o' → RS K mw o' S →
  (nxt it i S = some none → J.stop i o'.H) ∧ ∀ d, nxt it i S = some (some d) → J.go i o'.H ∧ ∀ x H', J.yld i o'.H x H' → ∃ o2 : Wd, o2.H = H' ∧ Le K o' o2 ∧ RS K mw o2 S ∧ RD K mw o2 d x
def tI (W : WX) (fi : FI) : TI := fun σ H R => ∃ env S o, At K mw env S o σ H ∧ Post K mw (wx K mw W σ) (fun it _ o' => ∀ J, RIt K mw o' it J → R J o'.H) o (fi env S)
end
section
variable {K : PySem.W.Frag} {mw : MW} {o : Wd}
theorem RDs.none' {ds : List D} {vs : List V} {i : Nat} (r : RDs K mw o ds vs) (h : ds[i]? = none) : vs.length ≤ i := by
  rw [← r.length]
  exact List.getElem?_eq_none_iff.mp h
theorem rit_tup {a : Addr} {ds : List D} {vs : List V} (h : SqT K o.H a vs) (r : RDs K mw o ds vs) : RIt K mw o (.items ds) (Itt K a) := by
  intro o' S i l rs
  have h' := l.tup a vs h
  have r' := r.upV l
  refine ⟨fun e => ⟨vs, h', r'.none' (Option.some.inj e)⟩, fun d e => ?_⟩
  obtain ⟨v, hv, rv⟩ := r'.get (Option.some.inj e)
  refine ⟨⟨vs, v, h', hv⟩, fun x H' hy => ?_⟩
  obtain ⟨rfl, hy⟩ := hy
  have := hy vs h'
  rw [hv] at this
  cases this
  exact ⟨o', rfl, .refl, rs, rv⟩
theorem rit_fz {a : Addr} {ds : List D} {vs : List V} (h : SqF K o.H a vs) (r : RDs K mw o ds vs) : RIt K mw o (.items ds) (Itl K a) := by
  intro o' S i l rs
  have h' := (l.fz h).sq
  have r' := r.upV l
  refine ⟨fun e => ⟨vs, h', r'.none' (Option.some.inj e)⟩, fun d e => ?_⟩
  obtain ⟨v, hv, rv⟩ := r'.get (Option.some.inj e)
  refine ⟨⟨vs, v, h', hv⟩, fun x H' hy => ?_⟩
  obtain ⟨rfl, hy⟩ := hy
  have := hy vs h'
  rw [hv] at this
  cases this
  exact ⟨o', rfl, .refl, rs, rv⟩
theorem rit_live {a : Addr} {n : Nat} (h : o.rho[n]? = some a) : RIt K mw o (.live n) (Itl K a) := by
  intro o' S i l rs
  have h' := l.rho n a h
  refine ⟨fun e => ?_, fun d e => ?_⟩
  · dsimp only [nxt] at e
    split at e
    · rename_i ds hl
      obtain ⟨vs, q, p⟩ := rs.lst h' hl
      exact ⟨vs, SqL.of q, p.none' (Option.some.inj e)⟩
    · cases e
  · dsimp only [nxt] at e
    split at e
    · rename_i ds hl
      obtain ⟨vs, q, p⟩ := rs.lst h' hl
      obtain ⟨v, hv, rv⟩ := p.get (Option.some.inj e)
      refine ⟨⟨vs, v, SqL.of q, hv⟩, fun x H' hy => ?_⟩
      obtain ⟨rfl, hy⟩ := hy
      have := hy vs (SqL.of q)
      rw [hv] at this
      cases this
      exact ⟨o', rfl, .refl, rs, rv⟩
    · cases e
theorem rit_range {lo : Int} {n : Nat} : RIt K mw o (.items (upTo lo n)) (Itr lo n) := by
  intro o' S i l rs
  refine ⟨fun e => ?_, fun d e => ?_⟩
  · have := List.getElem?_eq_none_iff.mp (Option.some.inj e)
    rw [upTo_length] at this
    exact this
  · have hi : i < n := by
      have := (List.getElem?_eq_some_iff.mp (Option.some.inj e)).1
      rw [upTo_length] at this
      exact this
    have e2 : (upTo lo n)[i]? = some d := Option.some.inj e
    rw [upTo_get n lo i hi] at e2
    cases e2
    refine ⟨hi, fun x H' hy => ?_⟩
    obtain ⟨rfl, rfl⟩ := hy
    exact ⟨o', rfl, .refl, rs, .int _⟩
theorem rit_down {hi : Int} {n : Nat} : RIt K mw o (.items (dnTo hi n)) (Itc hi (-1) n) := by
  intro o' S i l rs
  refine ⟨fun e => ?_, fun d e => ?_⟩
  · have := List.getElem?_eq_none_iff.mp (Option.some.inj e)
    rw [dnTo_length] at this
    exact this
  · have hi : i < n := by
      have := (List.getElem?_eq_some_iff.mp (Option.some.inj e)).1
      rw [dnTo_length] at this
      exact this
    have e2 : (dnTo _ n)[i]? = some d := Option.some.inj e
    rw [dnTo_get n _ i hi] at e2
    cases e2
    refine ⟨hi, fun x H' hy => ?_⟩
    obtain ⟨rfl, rfl⟩ := hy
    exact ⟨o', rfl, .refl, rs, .int _⟩
theorem rit_enum {a : Addr} {ds : List D} {vs : List V} (h : SqF K o.H a vs) (r : RDs K mw o ds vs) : RIt K mw o (.enum ds) (Ite K a) := by
  intro o' S i l rs
  have h' := (l.fz h).sq
  have r' := r.upV l
  refine ⟨fun e => ⟨vs, h', r'.none' ?_⟩, fun d e => ?_⟩
  · have : ds[i]?.map (fun d => D.tup [.int (i : Nat), d]) = none := Option.some.inj e
    simpa using this
  · obtain ⟨d', e1, rfl⟩ := Option.map_eq_some_iff.mp (Option.some.inj e)
    obtain ⟨v, hv, rv⟩ := r'.get e1
    refine ⟨⟨vs, v, h', hv⟩, fun x H' hy => ?_⟩
    obtain ⟨T, x', rfl, hT, rfl, hy⟩ := hy
    have := hy vs h'
    rw [hv] at this
    cases this
    obtain ⟨a1, a2, a3⟩ := rs.newTup hT (.cons (.int ((i : Nat) : Int)) (.cons rv .nil))
    exact ⟨_, rfl, a1, a2, a3⟩
theorem rit_enumT {a : Addr} {ds : List D} {vs : List V} (h : SqT K o.H a vs) (r : RDs K mw o ds vs) : RIt K mw o (.enum ds) (IteT K a vs.length) := by
  intro o' S i l rs
  have h' := l.tup a vs h
  have r' := r.upV l
  refine ⟨fun e => ⟨vs, h', rfl, r'.none' ?_⟩, fun d e => ?_⟩
  · have : ds[i]?.map (fun d => D.tup [.int (i : Nat), d]) = none := Option.some.inj e
    simpa using this
  · obtain ⟨d', e1, rfl⟩ := Option.map_eq_some_iff.mp (Option.some.inj e)
    obtain ⟨v, hv, rv⟩ := r'.get e1
    refine ⟨⟨vs, v, h', rfl, hv⟩, fun x H' hy => ?_⟩
    obtain ⟨T, x', rfl, hT, rfl, hy⟩ := hy
    have := hy vs h'
    rw [hv] at this
    cases this
    obtain ⟨a1, a2, a3⟩ := rs.newTup hT (.cons (.int ((i : Nat) : Int)) (.cons rv .nil))
    exact ⟨_, rfl, a1, a2, a3⟩
theorem rit_enumL {a : Addr} {n : Nat} (h : o.rho[n]? = some a) : RIt K mw o (.enumL n) (Ite K a) := by
  intro o' S i l rs
  have h' := l.rho n a h
  refine ⟨fun e => ?_, fun d e => ?_⟩
  · dsimp only [nxt] at e
    split at e
    · rename_i ds hl
      obtain ⟨vs, q, p⟩ := rs.lst h' hl
      have : ds[i]?.map (fun d => D.tup [.int (i : Nat), d]) = none := Option.some.inj e
      exact ⟨vs, SqL.of q, p.none' (by simpa using this)⟩
    · cases e
  · dsimp only [nxt] at e
    split at e
    · rename_i ds hl
      obtain ⟨vs, q, p⟩ := rs.lst h' hl
      obtain ⟨d', e1, rfl⟩ := Option.map_eq_some_iff.mp (Option.some.inj e)
      obtain ⟨v, hv, rv⟩ := p.get e1
      refine ⟨⟨vs, v, SqL.of q, hv⟩, fun x H' hy => ?_⟩
      obtain ⟨T, x', rfl, hT, rfl, hy⟩ := hy
      have := hy vs (SqL.of q)
      rw [hv] at this
      cases this
      obtain ⟨a1, a2, a3⟩ := rs.newTup hT (.cons (.int ((i : Nat) : Int)) (.cons rv .nil))
      exact ⟨_, rfl, a1, a2, a3⟩
    · cases e
theorem rit_zipL {a b : Addr} {n m : Nat} (h : o.rho[n]? = some a) (h2 : o.rho[m]? = some b) : RIt K mw o (.zipL n m) (Itz K a b) := by
  intro o' S i l rs
  have h' := l.rho n a h
  have h2' := l.rho m b h2
  refine ⟨fun e => ?_, fun d e => ?_⟩
  · dsimp only [nxt] at e
    split at e
    · rename_i ds es hl hl2
      obtain ⟨vs, q, p⟩ := rs.lst h' hl
      obtain ⟨ws, q2, p2⟩ := rs.lst h2' hl2
      refine ⟨vs, ws, SqL.of q, SqL.of q2, ?_⟩
      have e := Option.some.inj e
      split at e
      · cases e
      · rename_i hn
        cases e1 : ds[i]? with
        | none => exact .inl (p.none' e1)
        | some d =>
          cases e2 : es[i]? with
          | none => exact .inr (p2.none' e2)
          | some e => exact absurd e2 (hn d e e1)
    · cases e
  · dsimp only [nxt] at e
    split at e
    · rename_i ds es hl hl2
      obtain ⟨vs, q, p⟩ := rs.lst h' hl
      obtain ⟨ws, q2, p2⟩ := rs.lst h2' hl2
      have e := Option.some.inj e
      split at e
      · rename_i d1 d2 e1 e2
        cases e
        obtain ⟨v, hv, rv⟩ := p.get e1
        obtain ⟨w, hw, rw'⟩ := p2.get e2
        refine ⟨⟨vs, ws, v, w, SqL.of q, SqL.of q2, hv, hw⟩, fun x H' hy => ?_⟩
        obtain ⟨T, x', y', rfl, hT, rfl, hy, hy2⟩ := hy
        have := hy vs (SqL.of q)
        rw [hv] at this
        cases this
        have := hy2 ws (SqL.of q2)
        rw [hw] at this
        cases this
        obtain ⟨a1, a2, a3⟩ := rs.newTup hT (.cons rv (.cons rw' .nil))
        exact ⟨_, rfl, a1, a2, a3⟩
      · cases e
    · cases e
end
section
variable {X : Cx} {W : WX} {tg a b c : Expr} {es : List Expr} {fa fb fc : FE} {fr : FA} {pos : Pos} {ft fu : FT} {f g : FS}
theorem PI.imp {wi wi' : TI} (h : PI X tg a wi) (q : ∀ σ H R, wi' σ H R → wi σ H R) : PI X tg a wi' := ⟨fun pins s σ H R I z => h.run pins s σ H R I (q σ H R z)⟩
/-- a list or a tuple is walked -/
theorem pi_seq {tl : TE} (hl : PE X a tl) : PI X tg a (fun σ H R => tl σ H fun x H1 => ∃ p xs, x = .ref p ∧ ((SqL X.K H1 p xs ∧ R (Itl X.K p) H1) ∨ (SqT X.K H1 p xs ∧ R (Itt X.K p) H1))) := by
  refine ⟨fun pins s σ H R I h => ?_⟩
  refine thn (hl.run pins s σ H _ I h) fun v s1 ⟨x, H1, I1, r1, p, xs, ex, q1⟩ => ?_
  subst ex
  cases r1
  have new : ∀ b ∈ [s1.heap.objs.size], FpOk X pins H1 b := fun b hb => by
    rw [List.mem_singleton.mp hb]
    exact I1.fpOk (Nat.le_refl _) (I1.hok.fresh (Nat.le_refl _))
  rcases q1 with ⟨hq, q⟩ | ⟨hq, q⟩
  · obtain ⟨its, rv, pl, hz⟩ := I1.list hq
    exact wpAny_pyIter_list pl.isList ⟨s1.heap.objs.size, [s1.heap.objs.size], _, _, H1, rfl, I1.kept (t' := s1.toks) fun b o e => Heap.get?_push_of_some _ e, turn_list p _, ⟨_, Heap.get?_push_size _ rfl, rfl, rfl⟩, new, q⟩
  · obtain ⟨its, rv, pl, hz⟩ := I1.tuple hq
    exact wpAny_pyIter_tuple (show s1.heap.IsTuple p its.toArray from pl) ⟨s1.heap.objs.size, [s1.heap.objs.size], _, _, H1, rfl, I1.kept (t' := s1.toks) fun b o e => Heap.get?_push_of_some _ e, turn_tuple p _, ⟨_, Heap.get?_push_size _ rfl, rfl, rfl⟩, new, q⟩
theorem d_iseq (ha : PE X a (tE X.K X.mw W fa)) : PI X tg a (tI X.K X.mw W (iSeq fa)) := by
  refine PI.imp (pi_seq ha) fun σ H R h => ?_
  obtain ⟨env, S, o, ⟨rfl, re, rs⟩, p⟩ := h
  refine ⟨env, S, o, ⟨rfl, re, rs⟩, (Post.bind p).imp fun d S1 o1 l1 rs1 p1 v r => ?_⟩
  split at p1
  · rename_i it e
    have p1 := p1.here rs1
    cases r with
    | @tup q ds vs h1 r1 => cases e; exact ⟨q, vs, rfl, .inr ⟨h1, p1 _ (rit_tup h1 r1)⟩⟩
    | @fz q ds vs h1 r1 => cases e; exact ⟨q, vs, rfl, .inl ⟨h1.sq, p1 _ (rit_fz h1 r1)⟩⟩
    | @loc n q hn =>
      unfold itOf at e
      dsimp only at e
      split at e
      · rename_i ds hl
        cases e
        obtain ⟨vs, h1, r1⟩ := rs1.lst hn hl
        exact ⟨q, vs, rfl, .inl ⟨SqL.of h1, p1 _ (rit_live hn)⟩⟩
      · cases e
    | _ => cases e
  · exact False.elim p1
theorem small62_ok {i : Int} (h : small62 i = true) : -(2 ^ 62) ≤ i ∧ i < 2 ^ 62 := of_decide_eq_true h
theorem d_irg1 {p : Pos} (hg : Gl X "range") (hm : X.mg "range" = none) (ha : PA X [a] (tA X.K X.mw W fr)) (hl : LenA fr 1) (hs : starEach [a] X.env = [(false, eval a X.env)]) : PI X tg (.Call (.Name "range" p) [a] [] pos) (tI X.K X.mw W (iRg fr)) := by
  refine PI.imp (pi_range1 hg hm ha hs) fun σ H R h => ?_
  obtain ⟨env, S, o, ⟨rfl, re, rs⟩, p⟩ := h
  refine ⟨env, S, o, ⟨rfl, re, rs⟩, (postLen (Post.bind p) (hl env S)).imp fun ds S1 o1 l1 rs1 p1 vs r => ?_⟩
  obtain ⟨hn, p1⟩ := p1
  split at p1
  · obtain ⟨v, rfl, r1⟩ := r.one
    split at p1
    · rename_i hz
      cases r1
      exact ⟨_, rfl, (small62_ok hz).1, (small62_ok hz).2, p1.here rs1 _ rit_range⟩
    · exact False.elim p1
  · cases hn
  · cases hn
  · exact False.elim p1
theorem d_irg2 {p : Pos} (hg : Gl X "range") (hm : X.mg "range" = none) (ha : PA X [a, b] (tA X.K X.mw W fr)) (hl : LenA fr 2) (hs : starEach [a, b] X.env = [(false, eval a X.env), (false, eval b X.env)]) (hs2 : starEach [b] X.env = [(false, eval b X.env)]) :
    PI X tg (.Call (.Name "range" p) [a, b] [] pos) (tI X.K X.mw W (iRg fr)) := by
  refine PI.imp (pi_range2 hg hm ha hs hs2) fun σ H R h => ?_
  obtain ⟨env, S, o, ⟨rfl, re, rs⟩, p⟩ := h
  refine ⟨env, S, o, ⟨rfl, re, rs⟩, (postLen (Post.bind p) (hl env S)).imp fun ds S1 o1 l1 rs1 p1 vs r => ?_⟩
  obtain ⟨hn, p1⟩ := p1
  split at p1
  · cases hn
  · obtain ⟨v, w, rfl, r1, r2⟩ := r.two
    split at p1
    · rename_i hz
      cases r1
      cases r2
      exact ⟨_, _, rfl, ⟨(small62_ok hz.1).1, (small62_ok hz.1).2, (small62_ok hz.2).1, (small62_ok hz.2).2⟩, p1.here rs1 _ rit_range⟩
    · exact False.elim p1
  · cases hn
  · exact False.elim p1
theorem RDs.tri {K : PySem.W.Frag} {mw : MW} {o : Wd} {d e f : D} {vs : List V} (h : RDs K mw o [d, e, f] vs) : ∃ u v w, vs = [u, v, w] ∧ RD K mw o d u ∧ RD K mw o e v ∧ RD K mw o f w := by
  cases h with
  | cons r t =>
    obtain ⟨v, w, rfl, r1, r2⟩ := t.two
    exact ⟨_, _, _, rfl, r, r1, r2⟩
theorem d_irg3 {p : Pos} (hg : Gl X "range") (hm : X.mg "range" = none) (ha : PA X [a, b, c] (tA X.K X.mw W fr)) (hl : LenA fr 3) (hs : starEach [a, b, c] X.env = (false, eval a X.env) :: starEach [b, c] X.env) (hpl : (backTo pos (starEach [b, c] X.env)).any (·.1) = false) :
    PI X tg (.Call (.Name "range" p) [a, b, c] [] pos) (tI X.K X.mw W (iRg fr)) := by
  refine PI.imp (pi_range3 hg hm ha hs hpl) fun σ H R h => ?_
  obtain ⟨env, S, o, ⟨rfl, re, rs⟩, p⟩ := h
  refine ⟨env, S, o, ⟨rfl, re, rs⟩, (postLen (Post.bind p) (hl env S)).imp fun ds S1 o1 l1 rs1 p1 vs r => ?_⟩
  obtain ⟨hn, p1⟩ := p1
  split at p1
  · cases hn
  · cases hn
  · rename_i i j q
    obtain ⟨u, v, w, rfl, r1, r2, r3⟩ := r.tri
    split at p1
    · rename_i hz
      obtain ⟨z1, z2, z3⟩ := hz
      cases r1
      cases r2
      cases r3
      subst z1
      exact ⟨_, _, _, _, rfl, RgC.neg (small62_ok z2).1 (small62_ok z2).2 (small62_ok z3).1 (small62_ok z3).2, p1.here rs1 _ rit_down⟩
    · exact False.elim p1
  · exact False.elim p1
theorem d_ien {p tpos : Pos} {elts : List Expr} {kk : Nat} (hg : Gl X "enumerate") (hm : X.mg "enumerate" = none) (ha : PA X [a] (tA X.K X.mw W fr)) (hs : starEach [a] X.env = [(false, eval a X.env)]) : PI X (.Tuple elts kk tpos) (.Call (.Name "enumerate" p) [a] [] pos) (tI X.K X.mw W (iEn fr)) := by
  refine PI.imp (pi_enumA hg hm ha hs) fun σ H R h => ?_
  obtain ⟨env, S, o, ⟨rfl, re, rs⟩, p⟩ := h
  refine ⟨env, S, o, ⟨rfl, re, rs⟩, (Post.bind p).imp fun ds S1 o1 l1 rs1 p1 vs r => ?_⟩
  split at p1
  · obtain ⟨v, rfl, r1⟩ := r.one
    split at p1
    · rename_i ds hl
      cases r1 with
      | @loc n q hn =>
      obtain ⟨vs, h1, r2⟩ := rs1.lst hn hl
      exact ⟨q, vs, rfl, .inl ⟨SqL.of h1, p1.here rs1 _ (rit_enumL hn)⟩⟩
    · exact False.elim p1
  · obtain ⟨v, rfl, r1⟩ := r.one
    cases r1 with
    | @fz q ds vs h1 r1 => exact ⟨q, vs, rfl, .inl ⟨h1.sq, p1.here rs1 _ (rit_enum h1 r1)⟩⟩
  · obtain ⟨v, rfl, r1⟩ := r.one
    cases r1 with
    | @tup q ds vs h1 r1 => exact ⟨q, vs, rfl, .inr ⟨h1, p1.here rs1 _ (rit_enumT h1 r1)⟩⟩
  · exact False.elim p1
theorem d_izp {p tpos : Pos} {elts : List Expr} {kk : Nat} (hg : Gl X "zip") (hm : X.mg "zip" = none) (ha : PA X [a, b] (tA X.K X.mw W fr)) (hs : starEach [a, b] X.env = (false, eval a X.env) :: starEach [b] X.env) (hpl : (backTo pos (starEach [b] X.env)).any (·.1) = false) :
    PI X (.Tuple elts kk tpos) (.Call (.Name "zip" p) [a, b] [] pos) (tI X.K X.mw W (iZp fr)) := by
  refine PI.imp (pi_zip hg hm ha hs hpl) fun σ H R h => ?_
  obtain ⟨env, S, o, ⟨rfl, re, rs⟩, p⟩ := h
  refine ⟨env, S, o, ⟨rfl, re, rs⟩, (Post.bind p).imp fun ds S1 o1 l1 rs1 p1 vs r => ?_⟩
  split at p1
  · obtain ⟨v, w, rfl, r1, r2⟩ := r.two
    split at p1
    · rename_i ds es hl hl2
      cases r1 with
      | @loc n q hn =>
      cases r2 with
      | @loc m q2 hm2 =>
      obtain ⟨vs, h1, _⟩ := rs1.lst hn hl
      obtain ⟨ws, h2, _⟩ := rs1.lst hm2 hl2
      exact ⟨q, q2, vs, ws, rfl, SqL.of h1, SqL.of h2, p1.here rs1 _ (rit_zipL hn hm2)⟩
    · exact False.elim p1
  · exact False.elim p1

/-! ### for, while -/
def forF (it : IT) (g : FG) (b : FS) : Nat → Nat → Env → Sto → Out Fl
  | 0, _, _, _ => .stk
  | k + 1, i, env, S => match nxt it i S with
    | none => .stk
    | some none => .ok (.nx env) S
    | some (some d) => (g d env S).bind fun env1 S1 => (b env1 S1).bind fun fl S2 => match fl with
      | .nx e => forF it g b k (i + 1) e S2
      | .ct e => forF it g b k (i + 1) e S2
      | .bk e => .ok (.nx e) S2
      | .rt d => .ok (.rt d) S2
def sFor (fi : FI) (g : FG) (b : FS) : FS := fun env S => (fi env S).bind fun it S1 => forF it g b (turns it S1 + 1) 0 env S1
def whF (t : FT) (b : FS) : Nat → Env → Sto → Out Fl
  | 0, _, _ => .stk
  | k + 1, env, S => (t env S).bind fun c S1 => if c = true then (b env S1).bind fun fl S2 => match fl with
      | .nx e => whF t b k e S2
      | .ct e => whF t b k e S2
      | .bk e => .ok (.nx e) S2
      | .rt d => .ok (.rt d) S2
    else .ok (.nx env) S1
def wTurns : Nat := 1000000000000000000000000000000000000000000000000000000000000
def sWhile (t : FT) (b : FS) : FS := fun env S => whF t b wTurns env S
theorem d_for {fi : FI} {g : FG} {ch : List Nat} {body : List Stmt} (hW : Flat W) (hp : PassesOwn (model X.prog X.w) X.A X.env X.xe) (hc : X.calm = true) (hi : PI X tg a (tI X.K X.mw W fi)) (hg : PG X tg (tG X.K X.mw W ch g)) (hb : PSs X body (tS X.K X.mw W f))
    (hs : ∀ x, foldedSetIterable a X.env x = pure x) : PS X (.For tg a body [] pos) (tS X.K X.mw W (sFor fi g f)) := by
  refine PS.imp (ps_for hp hc hi hg hb hs) fun D' σ H h => ?_
  obtain ⟨env, S, o, ⟨rfl, re, rs⟩, p⟩ := h
  refine ⟨env, S, o, ⟨rfl, re, rs⟩, (Post.bind p).imp fun it S1 o1 l1 rs1 p1 J hJ => ?_⟩
  refine ⟨fun i m σ' H' => ∃ env' S' o', At X.K X.mw env' S' o' σ' H' ∧ Le X.K o1 o' ∧ Post X.K X.mw (wx X.K X.mw W σ) (FlP X.K X.mw D') o' (forF it g f m i env' S'),
    ⟨turns it S1 + 1, env, S1, o1, ⟨rfl, re.up l1, rs1⟩, .refl, p1⟩, ?_⟩
  rintro i m σ' H' ⟨env', S', o', ⟨rfl, re', rs'⟩, l', p'⟩
  cases m with
  | zero => exact False.elim p'
  | succ k =>
    unfold forF at p'
    obtain ⟨hJ1, hJ2⟩ := hJ o' S' i l'.toLeV rs'
    split at p'
    · exact False.elim p'
    · rename_i e
      exact .inl ⟨hJ1 e, p'.here rs' σ' re'⟩
    · rename_i d e
      obtain ⟨hgo, hy⟩ := hJ2 d e
      refine .inr ⟨hgo, fun σ2 H2 => ∃ env2 S2 o2, At X.K X.mw env2 S2 o2 σ2 H2 ∧ Le X.K o1 o2 ∧ Post X.K X.mw (wx X.K X.mw W σ) (FlP X.K X.mw D') o2 (forF it g f k (i + 1) env2 S2), fun σ2 H2 h2 => ⟨k, Nat.lt_succ_self k, h2⟩, fun x H2 hyld => ?_⟩
      obtain ⟨o2, rfl, l2, rs2, r2⟩ := hy x H2 hyld
      have q2 : Post X.K X.mw (wx X.K X.mw W σ) (fun env1 S3 o3 => Post X.K X.mw (wx X.K X.mw W σ) (FlP X.K X.mw D') o3 ((f env1 S3).bind fun fl S2 => match fl with
        | .nx e => forF it g f k (i + 1) e S2
        | .ct e => forF it g f k (i + 1) e S2
        | .bk e => .ok (.nx e) S2
        | .rt d => .ok (.rt d) S2)) o2 (g d env' S') := by
        have z := Post.bind p'
        revert z
        cases g d env' S' with
        | ok env1 S3 => exact fun z o3 l3 rs3 => z o3 (l2.trans l3) rs3
        | exc x S3 => exact fun z o3 l3 rs3 => z o3 (l2.trans l3) rs3
        | stk => exact fun z => z
      refine ⟨d, env', S', o2, ⟨rfl, re'.up l2, rs2⟩, r2, (q2.wish fun x o' h => wx_flat hW h).imp fun env1 S3 o3 l3 rs3 p3 σ3 re3 _ => ?_⟩
      refine ⟨env1, S3, o3, ⟨rfl, re3, rs3⟩, ((Post.bind p3).wish fun x o' h => wx_flat hW h).imp fun fl S4 o4 l4 rs4 p4 => ?_⟩
      have ll : Le X.K o1 o4 := l'.trans (l2.trans (l3.trans l4))
      cases fl with
      | nx e4 => exact fun σ4 re4 => ⟨e4, S4, o4, ⟨rfl, re4, rs4⟩, ll, p4⟩
      | ct e4 => exact fun σ4 re4 => ⟨e4, S4, o4, ⟨rfl, re4, rs4⟩, ll, p4⟩
      | bk e4 => exact fun σ4 re4 => p4.here rs4 σ4 re4
      | rt d4 => exact fun v r => p4.here rs4 v r
theorem d_while {body : List Stmt} (hW : Flat W) (hp : PassesOwn (model X.prog X.w) X.A X.env X.xe) (hc : PT X c (tT X.K X.mw W ft)) (hb : PSs X body (tS X.K X.mw W f)) : PS X (.While c body [] pos) (tS X.K X.mw W (sWhile ft f)) := by
  refine PS.imp (ps_while hp hc hb) fun D' σ H h => ?_
  obtain ⟨env, S, o, ⟨rfl, re, rs⟩, p⟩ := h
  refine ⟨fun m σ' H' => ∃ env' S' o', At X.K X.mw env' S' o' σ' H' ∧ Post X.K X.mw (wx X.K X.mw W σ) (FlP X.K X.mw D') o' (whF ft f m env' S'), ⟨wTurns, env, S, o, ⟨rfl, re, rs⟩, p⟩, ?_⟩
  rintro m σ' H' ⟨env', S', o', ⟨rfl, re', rs'⟩, p'⟩
  cases m with
  | zero => exact False.elim p'
  | succ k =>
    unfold whF at p'
    refine ⟨env', S', o', ⟨rfl, re', rs'⟩, ((Post.bind p').wish fun x o' h => wx_flat hW h).imp fun b S1 o1 l1 rs1 p1 => ?_⟩
    cases b with
    | false => exact p1.here rs1 σ' (re'.up l1)
    | true =>
      refine ⟨fun σ2 H2 => ∃ env2 S2 o2, At X.K X.mw env2 S2 o2 σ2 H2 ∧ Post X.K X.mw (wx X.K X.mw W σ) (FlP X.K X.mw D') o2 (whF ft f k env2 S2), fun σ2 H2 h2 => ⟨k, Nat.lt_succ_self k, h2⟩, ?_⟩
      refine ⟨env', S1, o1, ⟨rfl, re'.up l1, rs1⟩, ((Post.bind p1).wish fun x o' h => wx_flat hW h).imp fun fl S2 o2 l2 rs2 p2 => ?_⟩
      cases fl with
      | nx e => exact fun σ4 re4 => ⟨e, S2, o2, ⟨rfl, re4, rs2⟩, p2⟩
      | ct e => exact fun σ4 re4 => ⟨e, S2, o2, ⟨rfl, re4, rs2⟩, p2⟩
      | bk e => exact fun σ4 re4 => p2.here rs2 σ4 re4
      | rt d => exact fun v r => p2.here rs2 v r

/-! ### list comprehensions -/
def wipeE (env : Env) : List Nat → Env
  | [] => env
  | v :: vs => (wipeE env vs).set v none
def lcF (it : IT) (g : FG) (t : FT) (e : FE) (env0 : Env) : Nat → Nat → List D → Sto → Out (List D)
  | 0, _, _, _ => .stk
  | k + 1, i, acc, S => match nxt it i S with
    | none => .stk
    | some none => .ok acc S
    | some (some d) => (g d env0 S).bind fun env1 S1 => (t env1 S1).bind fun b S2 => if b = true then (e env1 S2).bind fun y S3 => if acc.length < sizeLine then lcF it g t e env0 k (i + 1) (acc ++ [y]) S3 else .stk
      else lcF it g t e env0 k (i + 1) acc S2
/-- no exception leaves a comprehension -/
def nox {α : Type} : Out α → Out α
  | .exc _ _ => .stk
  | r => r
def tYes' : FT := fun _ S => .ok true S
def eLc (vs : List Nat) (fi : FI) (g : FG) (t : FT) (e : FE) : FE := fun env S => (fi env S).bind fun it S1 => (nox (lcF it g t e (wipeE env vs) (turns it S1 + 1) 0 [] S1)).bind fun ds S2 => .ok (.loc S2.length) (S2 ++ [.lst ds])
theorem wipe_re {K : PySem.W.Frag} {mw : MW} {o : Wd} {env : Env} {σ : L2.St} (r : RE K mw o env σ) : ∀ vs : List Nat, RE K mw o (wipeE env vs) (wipe σ vs)
  | [] => r
  | v :: vs => by
    have ih := wipe_re r vs
    refine ⟨by unfold wipeE wipe; rw [List.length_set, List.length_set, ih.len], fun j d hj => ?_⟩
    unfold wipeE at hj
    unfold wipe
    by_cases e : v = j
    · subst e
      by_cases hl : v < (wipeE env vs).length
      · rw [List.getElem?_set_self hl] at hj; cases hj
      · rw [List.getElem?_eq_none (by simpa using hl)] at hj; cases hj
    · rw [List.getElem?_set_ne e] at hj ⊢
      exact ih.val j d hj
theorem wipe_in {σ : L2.St} {j : Nat} : ∀ {vs : List Nat}, j ∈ vs → j < σ.length → (wipe σ vs)[j]? = some none
  | [], h, _ => nomatch h
  | v :: vs, h, hl => by
    unfold wipe
    by_cases e : v = j
    · subst e
      exact List.getElem?_set_self (by rw [wipe_length]; exact hl)
    · rw [List.getElem?_set_ne e]
      rcases List.mem_cons.mp h with h | h
      · exact absurd h.symm e
      · exact wipe_in h hl
theorem wipe_same {σ σ2 : L2.St} {ch vs : List Nat} (h : SameBut ch (wipe σ vs) σ2) (hc : ∀ j ∈ ch, j ∈ vs) : wipe σ2 vs = wipe σ vs := by
  have hlen : σ2.length = σ.length := by rw [h.1, wipe_length]
  apply List.ext_getElem?
  intro j
  by_cases hj : j ∈ vs
  · by_cases hl : j < σ.length
    · rw [wipe_in hj (by rw [hlen]; exact hl), wipe_in hj hl]
    · rw [List.getElem?_eq_none (by rw [wipe_length, hlen]; omega), List.getElem?_eq_none (by rw [wipe_length]; omega)]
  · rw [wipe_out hj, h.2 j fun z => hj (hc j z)]
/-- no exception is wanted -/
def W0 : WX := fun _ _ _ _ => False
theorem flat0 : Flat W0 := fun _ _ _ _ _ h => h
def LcP (K : PySem.W.Frag) (mw : MW) (Q : VK) (o1 : Wd) : Out (List D) → Prop
  | .ok ds S2 => ∀ o3, Le K o1 o3 → RS K mw o3 (S2 ++ [.lst ds]) → ∀ v, RD K mw o3 (.loc S2.length) v → Q v o3.H
  | _ => False
theorem LcP.bind {α : Type} {K : PySem.W.Frag} {mw : MW} {Q : VK} {o1 : Wd} {r : Out α} {k : α → Sto → Out (List D)} (h : LcP K mw Q o1 (r.bind k)) (Wx : Ex → Wd → Prop) (o : Wd) : Post K mw Wx (fun a S _ => LcP K mw Q o1 (k a S)) o r := by
  cases r with
  | ok a S => exact fun _ _ _ => h
  | exc x S => exact False.elim h
  | stk => exact False.elim h
/-- an object that is no place yet becomes the next one -/
theorem RS.adopt {K : PySem.W.Frag} {mw : MW} {o : Wd} {S : Sto} {p : Addr} {vs : List V} {ds : List D} (r : RS K mw o S) (hn : p ∉ o.rho) (h : o.H p = some (.lst vs)) (q : RDs K mw o ds vs) :
    RS K mw ⟨o.rho ++ [p], o.H⟩ (S ++ [.lst ds]) ∧ RD K mw ⟨o.rho ++ [p], o.H⟩ (.loc S.length) (.ref p) := by
  have l : LeV K o ⟨o.rho ++ [p], o.H⟩ := ⟨fun n a e => by
    show (o.rho ++ [p])[n]? = some a
    rw [List.getElem?_append_left (List.getElem?_eq_some_iff.mp e).1]; exact e, fun _ _ q => q, fun _ _ _ q => q⟩
  have hp : (o.rho ++ [p])[S.length]? = some p := by rw [← r.len]; simp
  refine ⟨⟨by simp [r.len], ?_, fun n y e => ?_⟩, .loc hp⟩
  · refine List.nodup_append.mpr ⟨r.nd, by simp, fun a ha b hb => ?_⟩
    have e : b = p := by simpa using hb
    subst e
    intro e2
    subst e2
    exact hn ha
  · by_cases hl : n < S.length
    · rw [List.getElem?_append_left hl] at e
      obtain ⟨a, ea, q2⟩ := r.obj n y e
      exact ⟨a, l.rho n a ea, q2.upV l rfl⟩
    · have hl2 : n < (S ++ [SO.lst ds]).length := (List.getElem?_eq_some_iff.mp e).1
      have en : n = S.length := by simp at hl2; omega
      subst en
      simp at e
      subst e
      exact ⟨p, hp, vs, h, q.upV l⟩
theorem lc_ok {it : IT} {J : It} {g : FG} {ch vs : List Nat} {t : FT} {e : FE} {σ : L2.St} {env : Env} {o1 : Wd} {Dn : Addr} {S1 : Sto} {Q : VK} {k : Nat} (hch : ∀ j ∈ ch, j ∈ vs)
    (hJ : RIt X.K X.mw o1 it J) (re : RE X.K X.mw o1 env σ) (rs1 : RS X.K X.mw o1 S1) (hD : o1.H Dn = none) (p : LcP X.K X.mw Q o1 (lcF it g t e (wipeE env vs) k 0 [] S1)) :
    ∃ W : Nat → Nat → Hp → Prop, (∃ m, W 0 m (upd o1.H Dn (.lst []))) ∧ ∀ i m H, W i m H →
      (J.stop i H ∧ Q (.ref Dn) H) ∨ (J.go i H ∧ ∃ Nx : Hp → Prop, (∀ H', Nx H' → ∃ m', m' < m ∧ W (i + 1) m' H') ∧ ∀ x H', J.yld i H x H' → tG X.K X.mw W0 ch g x (wipe σ vs) H' fun σ2 H2 => wipe σ2 vs = wipe σ vs ∧ tT X.K X.mw W0 t σ2 H2 fun b H3 =>
        if b = true then tE X.K X.mw W0 e σ2 H3 fun y H4 => ∃ acc, H4 Dn = some (.lst acc) ∧ acc.length < sizeLine ∧ Nx (upd H4 Dn (.lst (acc ++ [y]))) else Nx H3) := by
  have nt : ∀ xs ys : List V, (HO.lst xs) ≠ .tup ys := fun _ _ z => nomatch z
  have nf : ∀ (xs : List V) (ob : Obj) (y : HO), (HO.lst xs) ≠ .frz ob y := fun _ _ _ z => nomatch z
  refine ⟨fun i m H => ∃ S o acc vacc, o.H = H ∧ Le X.K o1 o ∧ RS X.K X.mw o S ∧ Dn ∉ o.rho ∧ o.H Dn = some (.lst vacc) ∧ RDs X.K X.mw o acc vacc ∧ LcP X.K X.mw Q o1 (lcF it g t e (wipeE env vs) m i acc S), ?_, ?_⟩
  · exact ⟨k, S1, ⟨o1.rho, upd o1.H Dn (.lst [])⟩, [], [], rfl, Le.new hD, rs1.new hD, rs1.fresh hD, upd_same, .nil, p⟩
  · rintro i m H ⟨S, o, acc, vacc, rfl, l, rs, hDn, hDH, racc, q⟩
    cases m with
    | zero => exact False.elim q
    | succ m =>
      unfold lcF at q
      obtain ⟨hJ1, hJ2⟩ := hJ o S i l.toLeV rs
      split at q
      · exact False.elim q
      · rename_i en
        refine .inl ⟨hJ1 en, ?_⟩
        obtain ⟨a1, a2⟩ := rs.adopt hDn hDH racc
        refine q ⟨o.rho ++ [Dn], o.H⟩ ⟨l.toLeV.trans ⟨fun n a e => ?_, fun _ _ q => q, fun _ _ _ q => q⟩, fun b u hb eb => ?_⟩ a1 _ a2
        · show (o.rho ++ [Dn])[n]? = some a
          rw [List.getElem?_append_left (List.getElem?_eq_some_iff.mp e).1]; exact e
        · obtain ⟨e1, h1⟩ := l.rest b u hb eb
          refine ⟨e1, fun z => ?_⟩
          rcases List.mem_append.mp z with z | z
          · exact h1 z
          · exact ne_of_none eb hD (by simpa using z)
      · rename_i d en
        obtain ⟨hgo, hy⟩ := hJ2 d en
        refine .inr ⟨hgo, fun H' => ∃ S o acc vacc, o.H = H' ∧ Le X.K o1 o ∧ RS X.K X.mw o S ∧ Dn ∉ o.rho ∧ o.H Dn = some (.lst vacc) ∧ RDs X.K X.mw o acc vacc ∧ LcP X.K X.mw Q o1 (lcF it g t e (wipeE env vs) m (i + 1) acc S),
          fun H' h' => ⟨m, Nat.lt_succ_self m, h'⟩, fun x H' hyld => ?_⟩
        obtain ⟨o2, rfl, l2, rs2, r2⟩ := hy x H' hyld
        refine ⟨d, wipeE env vs, S, o2, ⟨rfl, (wipe_re ((re.up l).up l2) vs), rs2⟩, r2, (q.bind _ _).imp fun env1 S3 o3 l3 rs3 q3 σ3 re3 b3 => ⟨wipe_same b3 hch, ?_⟩⟩
        refine ⟨env1, S3, o3, ⟨rfl, re3, rs3⟩, (q3.bind _ _).imp fun b S4 o4 l4 rs4 q4 => ?_⟩
        cases b with
        | false =>
          have ll := l2.trans (l3.trans l4)
          obtain ⟨e5, h5⟩ := ll.rest Dn _ hDn hDH
          exact ⟨S4, o4, acc, vacc, rfl, l.trans ll, rs4, h5, e5, racc.up ll, q4⟩
        | true =>
          refine ⟨env1, S4, o4, ⟨rfl, re3.up l4, rs4⟩, (LcP.bind q4 _ _).imp fun y S5 o5 l5 rs5 q5 v rv => ?_⟩
          have ll := l2.trans (l3.trans (l4.trans l5))
          obtain ⟨e5, h5⟩ := ll.rest Dn _ hDn hDH
          split at q5
          · rename_i hz
            refine ⟨vacc, e5, by rw [← racc.length]; exact hz, S5, ⟨o5.rho, upd o5.H Dn (.lst (vacc ++ [v]))⟩, acc ++ [y], vacc ++ [v], rfl, (l.trans ll).other hD e5 (nt _) (nf _), rs5.other h5 e5 (nt _) (nf _), h5, upd_same, ?_, q5⟩
            have lv : LeV X.K o5 ⟨o5.rho, upd o5.H Dn (.lst (vacc ++ [v]))⟩ := LeV.write e5 (nt _) (nf _)
            exact ((racc.up ll).append (.cons rv .nil)).upV lv
          · exact False.elim q5
theorem lc_read {fi : FI} {g : FG} {ch vs : List Nat} {t : FT} {e : FE} {σ : L2.St} {H : Hp} {Q : VK} (hch : ∀ j ∈ ch, j ∈ vs) (h : tE X.K X.mw W (eLc vs fi g t e) σ H Q) : tLc (tI X.K X.mw W fi) (tG X.K X.mw W0 ch g) (tT X.K X.mw W0 t) (tE X.K X.mw W0 e) vs σ H Q := by
  obtain ⟨env, S, o, ⟨rfl, re, rs⟩, p⟩ := h
  refine ⟨env, S, o, ⟨rfl, re, rs⟩, (Post.bind p).imp fun it S1 o1 l1 rs1 p1 J hJ Dn hD => ?_⟩
  refine lc_ok (k := turns it S1 + 1) hch hJ (re.up l1) rs1 hD ?_
  revert p1
  cases lcF it g t e (wipeE env vs) (turns it S1 + 1) 0 [] S1 with
  | ok ds S2 => exact fun p1 => p1
  | exc x S2 => exact fun p1 => False.elim p1
  | stk => exact fun p1 => False.elim p1
end
end PV

set_option Elab.async false
set_option linter.all false
set_option maxRecDepth 100000
set_option maxHeartbeats 3999000
namespace PV
open L2 PyProof.Rows PySem PySem.Spec

/-! ### list comprehensions with two fors -/
def lcF2 (it : IT) (g : FG) (t : FT) (fi1 : FI) (vs1 : List Nat) (g1 : FG) (t1 : FT) (e : FE) (env0 : Env) : Nat → Nat → List D → Sto → Out (List D)
  | 0, _, _, _ => .stk
  | k + 1, i, acc, S => match nxt it i S with
    | none => .stk
    | some none => .ok acc S
    | some (some d) => (g d env0 S).bind fun env1 S1 => (t env1 S1).bind fun b S2 => if b = true then (fi1 env1 S2).bind fun it1 S3 => (lcF it1 g1 t1 e (wipeE env1 vs1) (turns it1 S3 + 1) 0 acc S3).bind fun acc' S4 => lcF2 it g t fi1 vs1 g1 t1 e env0 k (i + 1) acc' S4
      else lcF2 it g t fi1 vs1 g1 t1 e env0 k (i + 1) acc S2
def eLc2 (vs : List Nat) (fi : FI) (g : FG) (t : FT) (fi1 : FI) (vs1 : List Nat) (g1 : FG) (t1 : FT) (e : FE) : FE := fun env S => (fi env S).bind fun it S1 => (nox (lcF2 it g t fi1 vs1 g1 t1 e (wipeE env vs) (turns it S1 + 1) 0 [] S1)).bind fun ds S2 => .ok (.loc S2.length) (S2 ++ [.lst ds])
section
variable {X : Cx} {W : WX}
/-- the inner loop's turns, what is told behind it -/
theorem lc_in {it : IT} {J : It} {g : FG} {ch vs : List Nat} {t : FT} {e : FE} {σ : L2.St} {env : Env} {o1 o2 : Wd} {Dn : Addr} {Q : VK} {Nx : Hp → Prop} {K2 : List D → Sto → Out (List D)} (hch : ∀ j ∈ ch, j ∈ vs)
    (hJ : RIt X.K X.mw o2 it J) (re : RE X.K X.mw o2 env σ) (hD : o1.H Dn = none) (l12 : Le X.K o1 o2)
    (hN : ∀ S o acc vacc, LeV X.K o2 o → Le X.K o1 o → RS X.K X.mw o S → Dn ∉ o.rho → o.H Dn = some (.lst vacc) → RDs X.K X.mw o acc vacc → LcP X.K X.mw Q o1 (K2 acc S) → Nx o.H) {k : Nat} {S : Sto} {acc : List D} {vacc : List V}
    (rs : RS X.K X.mw o2 S) (hDn : Dn ∉ o2.rho) (hDH : o2.H Dn = some (.lst vacc)) (racc : RDs X.K X.mw o2 acc vacc) (p : LcP X.K X.mw Q o1 ((lcF it g t e (wipeE env vs) k 0 acc S).bind K2)) :
    ∃ W1 : Nat → Nat → Hp → Prop, (∃ m, W1 0 m o2.H) ∧ ∀ j k H, W1 j k H →
      (J.stop j H ∧ Nx H) ∨ (J.go j H ∧ ∃ Nx1 : Hp → Prop, (∀ H', Nx1 H' → ∃ k', k' < k ∧ W1 (j + 1) k' H') ∧ ∀ x H', J.yld j H x H' → tG X.K X.mw W0 ch g x (wipe σ vs) H' fun σ3 H5 => wipe σ3 vs = wipe σ vs ∧ tT X.K X.mw W0 t σ3 H5 fun b H6 =>
        if b = true then tE X.K X.mw W0 e σ3 H6 fun y H7 => ∃ acc, H7 Dn = some (.lst acc) ∧ acc.length < sizeLine ∧ Nx1 (upd H7 Dn (.lst (acc ++ [y]))) else Nx1 H6) := by
  have nt : ∀ xs ys : List V, (HO.lst xs) ≠ .tup ys := fun _ _ z => nomatch z
  have nf : ∀ (xs : List V) (ob : Obj) (y : HO), (HO.lst xs) ≠ .frz ob y := fun _ _ _ z => nomatch z
  let Iv : Nat → Nat → Hp → Prop := fun i m H => ∃ S o acc vacc, o.H = H ∧ LeV X.K o2 o ∧ Le X.K o1 o ∧ RS X.K X.mw o S ∧ Dn ∉ o.rho ∧ o.H Dn = some (.lst vacc) ∧ RDs X.K X.mw o acc vacc ∧ LcP X.K X.mw Q o1 ((lcF it g t e (wipeE env vs) m i acc S).bind K2)
  refine ⟨Iv, ⟨k, S, o2, acc, vacc, rfl, Le.refl.toLeV, l12, rs, hDn, hDH, racc, p⟩, ?_⟩
  rintro i m H ⟨S, o, acc, vacc, rfl, lv, l, rs, hDn, hDH, racc, q⟩
  cases m with
  | zero => exact False.elim q
  | succ m =>
    unfold lcF at q
    obtain ⟨hJ1, hJ2⟩ := hJ o S i lv rs
    split at q
    · exact False.elim q
    · rename_i en
      exact .inl ⟨hJ1 en, hN S o acc vacc lv l rs hDn hDH racc q⟩
    · rename_i d en
      obtain ⟨hgo, hy⟩ := hJ2 d en
      refine .inr ⟨hgo, Iv (i + 1) m, fun H' h' => ⟨m, Nat.lt_succ_self m, h'⟩, fun x H' hyld => ?_⟩
      obtain ⟨o3, rfl, l3, rs3, r3⟩ := hy x H' hyld
      have q' : LcP X.K X.mw Q o1 ((g d (wipeE env vs) S).bind fun env1 S1 => ((t env1 S1).bind fun b S2 => if b = true then (e env1 S2).bind fun y S3 => if acc.length < sizeLine then lcF it g t e (wipeE env vs) m (i + 1) (acc ++ [y]) S3 else .stk
        else lcF it g t e (wipeE env vs) m (i + 1) acc S2).bind K2) := by
        revert q
        cases g d (wipeE env vs) S with
        | ok a b => exact fun q => q
        | exc a b => exact fun q => q
        | stk => exact fun q => q
      refine ⟨d, wipeE env vs, S, o3, ⟨rfl, (wipe_re ((re.upV lv).up l3) vs), rs3⟩, r3, (q'.bind _ _).imp fun env1 S4 o4 l4 rs4 q4 σ4 re4 b4 => ⟨wipe_same b4 hch, ?_⟩⟩
      have q4' : LcP X.K X.mw Q o1 ((t env1 S4).bind fun b S2 => (if b = true then (e env1 S2).bind fun y S3 => if acc.length < sizeLine then lcF it g t e (wipeE env vs) m (i + 1) (acc ++ [y]) S3 else .stk
        else lcF it g t e (wipeE env vs) m (i + 1) acc S2).bind K2) := by
        revert q4
        cases t env1 S4 with
        | ok a b => exact fun q => q
        | exc a b => exact fun q => q
        | stk => exact fun q => q
      refine ⟨env1, S4, o4, ⟨rfl, re4, rs4⟩, (q4'.bind _ _).imp fun b S5 o5 l5 rs5 q5 => ?_⟩
      cases b with
      | false =>
        have ll := l3.trans (l4.trans l5)
        obtain ⟨e6, h6⟩ := ll.rest Dn _ hDn hDH
        exact ⟨S5, o5, acc, vacc, rfl, lv.trans ll.toLeV, l.trans ll, rs5, h6, e6, racc.up ll, q5⟩
      | true =>
        have q5' : LcP X.K X.mw Q o1 ((e env1 S5).bind fun y S3 => (if acc.length < sizeLine then lcF it g t e (wipeE env vs) m (i + 1) (acc ++ [y]) S3 else .stk).bind K2) := by
          have q5 : LcP X.K X.mw Q o1 (((e env1 S5).bind fun y S3 => if acc.length < sizeLine then lcF it g t e (wipeE env vs) m (i + 1) (acc ++ [y]) S3 else .stk).bind K2) := q5
          revert q5
          cases e env1 S5 with
          | ok a b => exact fun q => q
          | exc a b => exact fun q => q
          | stk => exact fun q => q
        refine ⟨env1, S5, o5, ⟨rfl, re4.up l5, rs5⟩, (LcP.bind q5' _ _).imp fun y S6 o6 l6 rs6 q6 v rv => ?_⟩
        have ll := l3.trans (l4.trans (l5.trans l6))
        obtain ⟨e7, h7⟩ := ll.rest Dn _ hDn hDH
        split at q6
        · rename_i hz
          have lw : LeV X.K o6 ⟨o6.rho, upd o6.H Dn (.lst (vacc ++ [v]))⟩ := LeV.write e7 (nt _) (nf _)
          exact ⟨vacc, e7, by rw [← racc.length]; exact hz, S6, ⟨o6.rho, upd o6.H Dn (.lst (vacc ++ [v]))⟩, acc ++ [y], vacc ++ [v], rfl, (lv.trans ll.toLeV).trans lw, (l.trans ll).other hD e7 (nt _) (nf _), rs6.other h7 e7 (nt _) (nf _), h7, upd_same, ((racc.up ll).append (.cons rv .nil)).upV lw, q6⟩
        · exact False.elim q6
theorem lc2_ok {it : IT} {J : It} {g g1 : FG} {ch vs ch1 vs1 : List Nat} {t t1 : FT} {fi1 : FI} {e : FE} {σ : L2.St} {env : Env} {o1 : Wd} {Dn : Addr} {S1 : Sto} {Q : VK} {k : Nat} (hch : ∀ j ∈ ch, j ∈ vs) (hch1 : ∀ j ∈ ch1, j ∈ vs1)
    (hJ : RIt X.K X.mw o1 it J) (re : RE X.K X.mw o1 env σ) (rs1 : RS X.K X.mw o1 S1) (hD : o1.H Dn = none) (p : LcP X.K X.mw Q o1 (lcF2 it g t fi1 vs1 g1 t1 e (wipeE env vs) k 0 [] S1)) :
    ∃ W : Nat → Nat → Hp → Prop, (∃ m, W 0 m (upd o1.H Dn (.lst []))) ∧ ∀ i m H, W i m H →
      (J.stop i H ∧ Q (.ref Dn) H) ∨ (J.go i H ∧ ∃ Nx : Hp → Prop, (∀ H', Nx H' → ∃ m', m' < m ∧ W (i + 1) m' H') ∧ ∀ x H', J.yld i H x H' → tG X.K X.mw W0 ch g x (wipe σ vs) H' fun σ2 H2 => wipe σ2 vs = wipe σ vs ∧ tT X.K X.mw W0 t σ2 H2 fun b H3 =>
        if b = true then tI X.K X.mw W0 fi1 σ2 H3 fun J1 H4 => ∃ W1 : Nat → Nat → Hp → Prop, (∃ m, W1 0 m H4) ∧ ∀ j k H, W1 j k H →
          (J1.stop j H ∧ Nx H) ∨ (J1.go j H ∧ ∃ Nx1 : Hp → Prop, (∀ H', Nx1 H' → ∃ k', k' < k ∧ W1 (j + 1) k' H') ∧ ∀ x H', J1.yld j H x H' → tG X.K X.mw W0 ch1 g1 x (wipe σ2 vs1) H' fun σ3 H5 => wipe σ3 vs1 = wipe σ2 vs1 ∧ tT X.K X.mw W0 t1 σ3 H5 fun b H6 =>
            if b = true then tE X.K X.mw W0 e σ3 H6 fun y H7 => ∃ acc, H7 Dn = some (.lst acc) ∧ acc.length < sizeLine ∧ Nx1 (upd H7 Dn (.lst (acc ++ [y]))) else Nx1 H6)
        else Nx H3) := by
  let Iv : Nat → Nat → Hp → Prop := fun i m H => ∃ S o acc vacc, o.H = H ∧ Le X.K o1 o ∧ RS X.K X.mw o S ∧ Dn ∉ o.rho ∧ o.H Dn = some (.lst vacc) ∧ RDs X.K X.mw o acc vacc ∧ LcP X.K X.mw Q o1 (lcF2 it g t fi1 vs1 g1 t1 e (wipeE env vs) m i acc S)
  refine ⟨Iv, ⟨k, S1, ⟨o1.rho, upd o1.H Dn (.lst [])⟩, [], [], rfl, Le.new hD, rs1.new hD, rs1.fresh hD, upd_same, .nil, p⟩, ?_⟩
  rintro i m H ⟨S, o, acc, vacc, rfl, l, rs, hDn, hDH, racc, q⟩
  cases m with
  | zero => exact False.elim q
  | succ m =>
    unfold lcF2 at q
    obtain ⟨hJ1, hJ2⟩ := hJ o S i l.toLeV rs
    split at q
    · exact False.elim q
    · rename_i en
      refine .inl ⟨hJ1 en, ?_⟩
      obtain ⟨a1, a2⟩ := rs.adopt hDn hDH racc
      refine q ⟨o.rho ++ [Dn], o.H⟩ ⟨l.toLeV.trans ⟨fun n a e => ?_, fun _ _ q => q, fun _ _ _ q => q⟩, fun b u hb eb => ?_⟩ a1 _ a2
      · show (o.rho ++ [Dn])[n]? = some a
        rw [List.getElem?_append_left (List.getElem?_eq_some_iff.mp e).1]; exact e
      · obtain ⟨e1, h1⟩ := l.rest b u hb eb
        refine ⟨e1, fun z => ?_⟩
        rcases List.mem_append.mp z with z | z
        · exact h1 z
        · exact ne_of_none eb hD (by simpa using z)
    · rename_i d en
      obtain ⟨hgo, hy⟩ := hJ2 d en
      refine .inr ⟨hgo, Iv (i + 1) m, fun H' h' => ⟨m, Nat.lt_succ_self m, h'⟩, fun x H' hyld => ?_⟩
      obtain ⟨o2, rfl, l2, rs2, r2⟩ := hy x H' hyld
      refine ⟨d, wipeE env vs, S, o2, ⟨rfl, (wipe_re ((re.up l).up l2) vs), rs2⟩, r2, (q.bind _ _).imp fun env1 S3 o3 l3 rs3 q3 σ3 re3 b3 => ⟨wipe_same b3 hch, ?_⟩⟩
      refine ⟨env1, S3, o3, ⟨rfl, re3, rs3⟩, (q3.bind _ _).imp fun b S4 o4 l4 rs4 q4 => ?_⟩
      cases b with
      | false =>
        have ll := l2.trans (l3.trans l4)
        obtain ⟨e5, h5⟩ := ll.rest Dn _ hDn hDH
        exact ⟨S4, o4, acc, vacc, rfl, l.trans ll, rs4, h5, e5, racc.up ll, q4⟩
      | true =>
        refine ⟨env1, S4, o4, ⟨rfl, re3.up l4, rs4⟩, (LcP.bind q4 _ _).imp fun it1 S5 o5 l5 rs5 q5 J1 hJ1' => ?_⟩
        have ll := l2.trans (l3.trans (l4.trans l5))
        obtain ⟨e5, h5⟩ := ll.rest Dn _ hDn hDH
        exact lc_in (o1 := o1) hch1 hJ1' ((re3.up l4).up l5) hD (l.trans ll) (fun S6 o6 acc6 vacc6 _ l6 rs6 h6 e6 r6 q6 => ⟨S6, o6, acc6, vacc6, rfl, l6, rs6, h6, e6, r6, q6⟩) rs5 h5 e5 (racc.up ll) q5
theorem lc2_read {fi fi1 : FI} {g g1 : FG} {ch vs ch1 vs1 : List Nat} {t t1 : FT} {e : FE} {σ : L2.St} {H : Hp} {Q : VK} (hch : ∀ j ∈ ch, j ∈ vs) (hch1 : ∀ j ∈ ch1, j ∈ vs1) (h : tE X.K X.mw W (eLc2 vs fi g t fi1 vs1 g1 t1 e) σ H Q) :
    tLc2 (tI X.K X.mw W fi) (tG X.K X.mw W0 ch g) (tT X.K X.mw W0 t) (tI X.K X.mw W0 fi1) (tG X.K X.mw W0 ch1 g1) (tT X.K X.mw W0 t1) (tE X.K X.mw W0 e) vs vs1 σ H Q := by
  obtain ⟨env, S, o, ⟨rfl, re, rs⟩, p⟩ := h
  refine ⟨env, S, o, ⟨rfl, re, rs⟩, (Post.bind p).imp fun it S1 o1 l1 rs1 p1 J hJ Dn hD => ?_⟩
  refine lc2_ok (k := turns it S1 + 1) hch hch1 hJ (re.up l1) rs1 hD ?_
  revert p1
  cases lcF2 it g t fi1 vs1 g1 t1 e (wipeE env vs) (turns it S1 + 1) 0 [] S1 with
  | ok ds S2 => exact fun p1 => p1
  | exc x S2 => exact fun p1 => False.elim p1
  | stk => exact fun p1 => False.elim p1
end
end PV

set_option Elab.async false
set_option linter.all false
set_option maxRecDepth 100000
set_option maxHeartbeats 3999000
namespace PV
open L2 PyProof.Rows PySem PySem.Spec

/-! ### an order on keys -/
mutual
def TK.cmp : TK → TK → Ordering
  | .int i, .int j => if i < j then .lt else if j < i then .gt else .eq
  | .int _, .str _ => .lt
  | .int _, .tup _ => .lt
  | .str _, .int _ => .gt
  | .str _, .str _ => .eq
  | .str _, .tup _ => .lt
  | .tup _, .int _ => .gt
  | .tup _, .str _ => .gt
  | .tup a, .tup b => TK.cmps a b
def TK.cmps : List TK → List TK → Ordering
  | [], [] => .eq
  | [], _ :: _ => .lt
  | _ :: _, [] => .gt
  | a :: r, b :: s => match TK.cmp a b with
    | .eq => TK.cmps r s
    | o => o
end
mutual
def TK.cok : TK → TK → Bool
  | .int _, .int _ => true
  | .tup a, .tup b => TK.coks a b
  | _, _ => false
def TK.coks : List TK → List TK → Bool
  | a :: r, b :: s => (decide (a = b) || TK.cok a b) && TK.coks r s
  | _, _ => true
end
mutual
theorem cmp_refl : ∀ a : TK, TK.cmp a a = .eq
  | .int i => by simp [TK.cmp]
  | .str _ => by simp [TK.cmp]
  | .tup a => by simp [TK.cmp, cmps_refl a]
theorem cmps_refl : ∀ a : List TK, TK.cmps a a = .eq
  | [] => by simp [TK.cmps]
  | a :: r => by simp [TK.cmps, cmp_refl a, cmps_refl r]
end
mutual
theorem cmp_swap : ∀ a b : TK, TK.cmp b a = (TK.cmp a b).swap
  | .int i, .int j => by
    simp only [TK.cmp]
    split
    · rw [if_neg (by omega)]; rfl
    · split <;> rfl
  | .int _, .str _ => by simp [TK.cmp]
  | .int _, .tup _ => by simp [TK.cmp]
  | .str _, .int _ => by simp [TK.cmp]
  | .str _, .str _ => by simp [TK.cmp]
  | .str _, .tup _ => by simp [TK.cmp]
  | .tup _, .int _ => by simp [TK.cmp]
  | .tup _, .str _ => by simp [TK.cmp]
  | .tup a, .tup b => by simp [TK.cmp, cmps_swap a b]
theorem cmps_swap : ∀ a b : List TK, TK.cmps b a = (TK.cmps a b).swap
  | [], [] => by simp [TK.cmps]
  | [], _ :: _ => by simp [TK.cmps]
  | _ :: _, [] => by simp [TK.cmps]
  | a :: r, b :: s => by
    simp only [TK.cmps]
    rw [cmp_swap a b, cmps_swap r s]
    cases TK.cmp a b <;> rfl
end
mutual
theorem cmp_tr : ∀ a b c : TK, (TK.cmp a b = .eq → TK.cmp a c = TK.cmp b c) ∧ (TK.cmp b c = .eq → TK.cmp a c = TK.cmp a b) ∧ (TK.cmp a b = .lt → TK.cmp b c = .lt → TK.cmp a c = .lt)
  | .int i, .int j, .int k => by
    simp only [TK.cmp]
    refine ⟨?_, ?_, ?_⟩
    · intro h
      have : i = j := by
        split at h
        · cases h
        · split at h
          · cases h
          · omega
      rw [this]
    · intro h
      have : j = k := by
        split at h
        · cases h
        · split at h
          · cases h
          · omega
      rw [this]
    · intro h1 h2
      have a : i < j := by
        split at h1
        · assumption
        · split at h1 <;> cases h1
      have b : j < k := by
        split at h2
        · assumption
        · split at h2 <;> cases h2
      rw [if_pos (by omega)]
  | .tup a, .tup b, .tup c => by
    simp only [TK.cmp]
    exact cmps_tr a b c
  | .int _, .int _, .str _ => by simp [TK.cmp]
  | .int _, .int _, .tup _ => by simp [TK.cmp]
  | .int _, .str _, .int _ => by simp [TK.cmp]
  | .int _, .str _, .str _ => by simp [TK.cmp]
  | .int _, .str _, .tup _ => by simp [TK.cmp]
  | .int _, .tup _, .int _ => by simp [TK.cmp]
  | .int _, .tup _, .str _ => by simp [TK.cmp]
  | .int _, .tup _, .tup _ => by simp [TK.cmp]
  | .str _, .int _, .int _ => by simp [TK.cmp]
  | .str _, .int _, .str _ => by simp [TK.cmp]
  | .str _, .int _, .tup _ => by simp [TK.cmp]
  | .str _, .str _, .int _ => by simp [TK.cmp]
  | .str _, .str _, .str _ => by simp [TK.cmp]
  | .str _, .str _, .tup _ => by simp [TK.cmp]
  | .str _, .tup _, .int _ => by simp [TK.cmp]
  | .str _, .tup _, .str _ => by simp [TK.cmp]
  | .str _, .tup _, .tup _ => by simp [TK.cmp]
  | .tup _, .int _, .int _ => by simp [TK.cmp]
  | .tup _, .int _, .str _ => by simp [TK.cmp]
  | .tup _, .int _, .tup _ => by simp [TK.cmp]
  | .tup _, .str _, .int _ => by simp [TK.cmp]
  | .tup _, .str _, .str _ => by simp [TK.cmp]
  | .tup _, .str _, .tup _ => by simp [TK.cmp]
  | .tup _, .tup _, .int _ => by simp [TK.cmp]
  | .tup _, .tup _, .str _ => by simp [TK.cmp]
theorem cmps_tr : ∀ a b c : List TK, (TK.cmps a b = .eq → TK.cmps a c = TK.cmps b c) ∧ (TK.cmps b c = .eq → TK.cmps a c = TK.cmps a b) ∧ (TK.cmps a b = .lt → TK.cmps b c = .lt → TK.cmps a c = .lt)
  | [], [], [] => by simp [TK.cmps]
  | [], [], _ :: _ => by simp [TK.cmps]
  | [], _ :: _, [] => by simp [TK.cmps]
  | [], _ :: _, _ :: _ => by simp [TK.cmps]
  | _ :: _, [], [] => by simp [TK.cmps]
  | _ :: _, [], _ :: _ => by simp [TK.cmps]
  | _ :: _, _ :: _, [] => by simp [TK.cmps]
  | a :: r, b :: s, c :: t => by
    obtain ⟨h1, h2, h3⟩ := cmp_tr a b c
    obtain ⟨k1, k2, k3⟩ := cmps_tr r s t
    simp only [TK.cmps]
    cases e1 : TK.cmp a b <;> cases e2 : TK.cmp b c <;> simp only [e1, e2, reduceCtorEq, false_implies, true_implies, forall_const] at h1 h2 h3 ⊢ <;> simp_all
end
def TK.lt (a b : TK) : Bool := TK.cmp a b == .lt
theorem lt_iff {a b : TK} : TK.lt a b = true ↔ TK.cmp a b = .lt := by simp [TK.lt]
theorem lt_no {a b : TK} : TK.lt a b = false ↔ TK.cmp a b ≠ .lt := by simp [TK.lt]
theorem lt_swo : SrtO.Swo TK.lt := by
  refine ⟨fun x y h => ?_, fun x y z h1 h2 => ?_⟩
  · rw [lt_iff] at h
    rw [lt_no, cmp_swap x y, h]
    simp
  · rw [lt_no] at h1 h2 ⊢
    obtain ⟨t1, t2, t3⟩ := cmp_tr x y z
    have s1 := cmp_swap x y
    have s2 := cmp_swap y z
    have s3 := cmp_swap x z
    rw [s3]
    rw [s1] at h1
    rw [s2] at h2
    cases e1 : TK.cmp x y <;> cases e2 : TK.cmp y z <;> simp_all [Ordering.swap]
mutual
theorem cok_ne : ∀ {a b : TK}, TK.cok a b = true → a ≠ b → TK.cmp a b ≠ .eq
  | .int i, .int j, _, h => by
    simp only [TK.cmp]
    have : i ≠ j := fun e => h (by rw [e])
    split
    · simp
    · rw [if_pos (by omega)]
      simp
  | .tup a, .tup b, h, hn => by
    simp only [TK.cmp]
    exact coks_ne (by simpa [TK.cok] using h) fun e => hn (by rw [e])
  | .int _, .str _, h, _ => by simp [TK.cok] at h
  | .int _, .tup _, h, _ => by simp [TK.cok] at h
  | .str _, .int _, h, _ => by simp [TK.cok] at h
  | .str _, .str _, h, _ => by simp [TK.cok] at h
  | .str _, .tup _, h, _ => by simp [TK.cok] at h
  | .tup _, .int _, h, _ => by simp [TK.cok] at h
  | .tup _, .str _, h, _ => by simp [TK.cok] at h
theorem coks_ne : ∀ {a b : List TK}, TK.coks a b = true → a ≠ b → TK.cmps a b ≠ .eq
  | [], [], _, h => absurd rfl h
  | [], _ :: _, _, _ => by simp [TK.cmps]
  | _ :: _, [], _, _ => by simp [TK.cmps]
  | a :: r, b :: s, h, hn => by
    simp only [TK.coks, Bool.and_eq_true, Bool.or_eq_true, decide_eq_true_eq] at h
    simp only [TK.cmps]
    by_cases e : a = b
    · subst e
      rw [cmp_refl]
      exact coks_ne h.2 fun e => hn (by rw [e])
    · have := cok_ne (h.1.resolve_left e) e
      cases q : TK.cmp a b <;> simp_all
end

/-! ### sorting by insertion -/
def ins {α : Type} (lt : α → α → Bool) (x : α) : List α → List α
  | [] => [x]
  | y :: r => if lt y x = true then y :: ins lt x r else x :: y :: r
def isort {α : Type} (lt : α → α → Bool) : List α → List α
  | [] => []
  | x :: r => ins lt x (isort lt r)
section
variable {α β : Type} {lt lt' : α → α → Bool}
theorem ins_perm (x : α) : ∀ l : List α, (ins lt x l).Perm (x :: l)
  | [] => .refl _
  | y :: r => by
    unfold ins
    split
    · exact ((ins_perm x r).cons y).trans (.swap x y r)
    · exact .refl _
theorem isort_perm : ∀ l : List α, (isort lt l).Perm l
  | [] => .refl _
  | x :: r => (ins_perm x _).trans ((isort_perm r).cons x)
theorem ins_srtd (O : SrtO.Swo lt) (x : α) : ∀ {l : List α}, SrtO.Srtd lt l → SrtO.Srtd lt (ins lt x l)
  | [], _ => List.pairwise_singleton _ _
  | y :: r, h => by
    obtain ⟨h1, h2⟩ := List.pairwise_cons.mp h
    unfold ins
    split
    · rename_i e
      refine List.pairwise_cons.mpr ⟨fun z hz => ?_, ins_srtd O x h2⟩
      rcases List.mem_cons.mp ((ins_perm x r).mem_iff.mp hz) with q | q
      · rw [q]; exact O.asym _ _ e
      · exact h1 z q
    · rename_i e
      have e : lt y x = false := by simpa using e
      refine List.pairwise_cons.mpr ⟨fun z hz => ?_, h⟩
      rcases List.mem_cons.mp hz with q | q
      · rw [q]; exact e
      · exact O.tr x y z e (h1 z q)
theorem isort_srtd (O : SrtO.Swo lt) : ∀ l : List α, SrtO.Srtd lt (isort lt l)
  | [] => List.Pairwise.nil
  | x :: r => ins_srtd O x (isort_srtd O r)
theorem ins_cls (O : SrtO.Swo lt) (x z : α) : ∀ {l : List α}, SrtO.Srtd lt l → (ins lt x l).filter (SrtO.eqv lt z) = (x :: l).filter (SrtO.eqv lt z)
  | [], _ => rfl
  | y :: r, h => by
    obtain ⟨h1, h2⟩ := List.pairwise_cons.mp h
    unfold ins
    split
    · rename_i e
      rw [List.filter_cons, ins_cls O x z h2]
      by_cases hx : SrtO.eqv lt z x = true
      · have hy : ¬ SrtO.eqv lt z y = true := fun hy => by
          obtain ⟨a1, a2⟩ := SrtO.eqv_iff.mp hx
          obtain ⟨b1, b2⟩ := SrtO.eqv_iff.mp hy
          have := O.tr x z y a1 b2
          rw [e] at this
          cases this
          
        rw [if_neg hy, List.filter_cons_of_pos hx, List.filter_cons_of_pos hx, List.filter_cons_of_neg hy]
      · rw [List.filter_cons_of_neg hx, List.filter_cons_of_neg hx, ← List.filter_cons]
    · rfl
theorem isort_stb (O : SrtO.Swo lt) : ∀ l : List α, SrtO.Stb lt (isort lt l) l
  | [] => .refl _
  | x :: r => by
    have ih := isort_stb O r
    refine ⟨isort_perm _, fun z => ?_⟩
    show (ins lt x (isort lt r)).filter _ = _
    rw [ins_cls O x z (isort_srtd O r), List.filter_cons, List.filter_cons, ih.cls z]
theorem ins_congr {x : α} : ∀ {l : List α}, (∀ y ∈ l, lt y x = lt' y x) → ins lt x l = ins lt' x l
  | [], _ => rfl
  | y :: r, h => by
    unfold ins
    rw [h y List.mem_cons_self, ins_congr fun z hz => h z (List.mem_cons_of_mem _ hz)]
theorem isort_congr : ∀ {l : List α}, (∀ x ∈ l, ∀ y ∈ l, lt x y = lt' x y) → isort lt l = isort lt' l
  | [], _ => rfl
  | x :: r, h => by
    show ins lt x (isort lt r) = ins lt' x (isort lt' r)
    rw [← isort_congr (l := r) fun a ha b hb => h a (List.mem_cons_of_mem _ ha) b (List.mem_cons_of_mem _ hb)]
    refine ins_congr fun y hy => ?_
    exact h y (List.mem_cons_of_mem _ ((isort_perm r).mem_iff.mp hy)) x List.mem_cons_self
theorem ins_map {f : β → α} (x : β) : ∀ l : List β, (ins (fun a b => lt (f a) (f b)) x l).map f = ins lt (f x) (l.map f)
  | [] => rfl
  | y :: r => by
    simp only [ins, List.map_cons]
    split
    · rw [List.map_cons, ins_map x r]
    · rfl
theorem isort_map {f : β → α} : ∀ l : List β, (isort (fun a b => lt (f a) (f b)) l).map f = isort lt (l.map f)
  | [] => rfl
  | x :: r => by
    show (ins _ x _).map f = ins lt (f x) (isort lt (r.map f))
    rw [ins_map, isort_map r]
theorem swo_by {f : β → α} (O : SrtO.Swo lt) : SrtO.Swo fun a b => lt (f a) (f b) := ⟨fun x y => O.asym _ _, fun x y z => O.tr _ _ _⟩
end
/-- how a datum is sorted -/
def skey (d : D) : TK := (tkOf d).getD (.int 0)
def ltD (d e : D) : Bool := TK.lt (skey d) (skey e)
theorem ltD_swo : SrtO.Swo ltD := ⟨fun x y => lt_swo.asym _ _, fun x y z => lt_swo.tr _ _ _⟩
inductive Fk where
  | int | tup
/-- the kind of a key: an int (a tuple whose first is an int, or a tuple) -/
def isI : TK → Bool
  | .int _ => true
  | _ => false
def isTI : TK → Bool
  | .tup (.int _ :: _) => true
  | _ => false
def isTT : TK → Bool
  | .tup (.tup _ :: _) => true
  | _ => false
def kindOk (ks : List TK) : Bool := ks.all isI || ks.all isTI || ks.all isTT
def cokAll (ks : List TK) : Bool := ks.all fun a => ks.all fun b => a.deep ≤ 8 && (decide (a = b) || TK.cok a b)
def sortOk (ds : List D) : Bool := match mapO tkOf ds with
  | some ks => kindOk ks && cokAll ks
  | none => false
end PV

set_option Elab.async false
set_option linter.all false
set_option maxRecDepth 100000
set_option maxHeartbeats 3999000
namespace PV
open L2 PyProof.Rows PySem PySem.Spec
theorem deepAll_mem : ∀ {ks : List TK} {k : TK}, k ∈ ks → k.deep ≤ TK.deepAll ks
  | [], _, h => nomatch h
  | a :: r, k, h => by
    simp only [TK.deepAll]
    rcases List.mem_cons.mp h with e | e
    · rw [e]; omega
    · have := deepAll_mem e; omega
theorem TksIs.get {h : Heap} : ∀ {ks : List TK} {vs : List Value} {j : Nat} {v : Value}, TksIs h ks vs → vs[j]? = some v → ∃ k, ks[j]? = some k ∧ TkIs h k v
  | [], vs, j, v, x, e => by rw [x.nil] at e; simp at e
  | k :: ks, vs, j, v, x, e => by
    obtain ⟨v', r, rfl, h1, h2⟩ := x.cons
    cases j with
    | zero => simp at e; subst e; exact ⟨k, rfl, h1⟩
    | succ j => exact TksIs.get (j := j) h2 (by simpa using e)
theorem TksIs.length {h : Heap} : ∀ {ks : List TK} {vs : List Value}, TksIs h ks vs → ks.length = vs.length
  | [], vs, x => by rw [x.nil]; rfl
  | k :: ks, vs, x => by
    obtain ⟨v', r, rfl, h1, h2⟩ := x.cons
    rw [List.length_cons, List.length_cons, TksIs.length h2]
theorem coks_get : ∀ {a b : List TK} {j : Nat} {x y : TK}, TK.coks a b = true → a[j]? = some x → b[j]? = some y → x = y ∨ TK.cok x y = true
  | [], b, j, x, y, _, e, _ => by simp at e
  | _ :: _, [], j, x, y, _, _, e => by simp at e
  | a :: r, b :: s, 0, x, y, h, e1, e2 => by
    simp at e1 e2
    subst e1 e2
    simp only [TK.coks, Bool.and_eq_true, Bool.or_eq_true, decide_eq_true_eq] at h
    exact h.1
  | a :: r, b :: s, j + 1, x, y, h, e1, e2 => by
    simp only [TK.coks, Bool.and_eq_true] at h
    exact coks_get (j := j) h.2 (by simpa using e1) (by simpa using e2)
theorem lexAt_tk (e r : Nat → Bool) : ∀ (a b : List TK) (i : Nat), TK.coks a b = true → (∀ j x y, a[j]? = some x → b[j]? = some y → e (i + j) = decide (x = y) ∧ r (i + j) = TK.lt x y) →
    Ob.lexAt e r (decide (a.length < b.length)) i (min a.length b.length) = (TK.cmps a b == .lt)
  | [], [], i, _, _ => by simp [Ob.lexAt, TK.cmps]
  | [], y :: b, i, _, _ => by simp [Ob.lexAt, TK.cmps]
  | x :: a, [], i, _, _ => by simp [Ob.lexAt, TK.cmps]
  | x :: a, y :: b, i, h, hj => by
    obtain ⟨h1, h2⟩ := hj 0 x y rfl rfl
    rw [Nat.add_zero] at h1 h2
    have h' := h
    simp only [TK.coks, Bool.and_eq_true, Bool.or_eq_true, decide_eq_true_eq] at h'
    have ih := lexAt_tk e r a b (i + 1) h'.2 (fun j x y p q => by
      have := hj (j + 1) x y (by simpa using p) (by simpa using q)
      rw [show i + 1 + j = i + (j + 1) by omega]
      exact this)
    have e3 : decide ((x :: a).length < (y :: b).length) = decide (a.length < b.length) := by simp
    rw [e3, List.length_cons, List.length_cons, Nat.add_min_add_right, Ob.lexAt_succ, h1]
    simp only [TK.cmps]
    by_cases q : x = y
    · subst q
      rw [decide_eq_true rfl, if_pos rfl, ih, cmp_refl]
    · rw [decide_eq_false q, if_neg (by simp), h2]
      have := cok_ne (h'.1.resolve_left q) q
      unfold TK.lt
      cases z : TK.cmp x y <;> simp_all
theorem eq_tk {A : Around} {s : Shared} {k j : TK} {v u : Value} (hk : TkIs s.heap k v) (hj : TkIs s.heap j u) (hu : A.units + k.deep < cLine) : SeqAt.EqAt A s v u (decide (k = j)) := by
  obtain ⟨as, r⟩ := hk
  obtain ⟨bs, r'⟩ := hj
  have := pdK_depth k
  rw [← pdK_eqv]
  exact SeqAt.eqAt_plain _ _ A s _ _ _ _ r r' (pdK_plain _) (pdK_plain _) (by omega)
theorem rc_tk {s : Shared} : ∀ (n : Nat) (k j : TK) (A : Around) (v u : Value), k.deep ≤ n → TkIs s.heap k v → TkIs s.heap j u → TK.cok k j = true → A.units + n < cLine → Ob.RcOp .Lt A s v u (TK.lt k j) := by
  intro n
  induction n with
  | zero =>
    intro k j A v u hn hk hj hc hu
    cases k with
    | int i =>
      cases j with
      | int i' =>
        obtain ⟨as, r⟩ := hk
        obtain ⟨bs, r'⟩ := hj
        simp only [pdK] at r r'
        cases r
        cases r'
        have : TK.lt (.int i) (.int i') = decide (i < i') := by
          unfold TK.lt
          simp only [TK.cmp]
          split
          · simp_all
          · split <;> simp_all
        rw [this]
        exact Ob.RcOp.lt_int _ _ _ _
      | _ => simp [TK.cok] at hc
    | str _ => simp [TK.cok] at hc
    | tup ks => simp [TK.deep] at hn
  | succ n ih =>
    intro k j A v u hn hk hj hc hu
    cases k with
    | int i =>
      cases j with
      | int i' =>
        obtain ⟨as, r⟩ := hk
        obtain ⟨bs, r'⟩ := hj
        simp only [pdK] at r r'
        cases r
        cases r'
        have : TK.lt (.int i) (.int i') = decide (i < i') := by
          unfold TK.lt
          simp only [TK.cmp]
          split
          · simp_all
          · split <;> simp_all
        rw [this]
        exact Ob.RcOp.lt_int _ _ _ _
      | _ => simp [TK.cok] at hc
    | str _ => simp [TK.cok] at hc
    | tup ks =>
      cases j with
      | tup js =>
        obtain ⟨a, o, items, m, rfl, ho, hcl, hd, hi⟩ := hk.tup
        obtain ⟨a', o', items', m', rfl, ho', hcl', hd', hi'⟩ := hj.tup
        have hc : TK.coks ks js = true := by simpa [TK.cok] using hc
        have hn : TK.deepAll ks ≤ n := by simp [TK.deep] at hn; exact hn
        have l1 : items.size = ks.length := by rw [hi.length]; simp
        have l2 : items'.size = js.length := by rw [hi'.length]; simp
        have it : ∀ j' (z1 : j' < items.size) (z2 : j' < items'.size), ∃ x y, ks[j']? = some x ∧ js[j']? = some y ∧ TkIs s.heap x items[j'] ∧ TkIs s.heap y items'[j'] := fun j' z1 z2 => by
          obtain ⟨x, e1, q1⟩ := hi.get (j := j') (v := items[j']) (by simp [z1])
          obtain ⟨y, e2, q2⟩ := hi'.get (j := j') (v := items'[j']) (by simp [z2])
          exact ⟨x, y, e1, e2, q1, q2⟩
        have R := Ob.RcOp.tuples_lt (A := A) (s := s) (e := fun j => decide (ks.getD j (.int 0) = js.getD j (.int 0))) (r := fun j => TK.lt (ks.getD j (.int 0)) (js.getD j (.int 0))) ⟨o, ho, hcl, m, hd⟩ ⟨o', ho', hcl', m', hd'⟩ (by omega)
          (fun j' z1 z2 => by
            obtain ⟨x, y, e1, e2, q1, q2⟩ := it j' z1 z2
            rw [List.getD_eq_getElem?_getD, List.getD_eq_getElem?_getD, e1, e2]
            have := deepAll_mem (List.mem_of_getElem? e1)
            exact eq_tk q1 q2 (by show A.units + 1 + x.deep < cLine; omega))
          (fun j' z1 z2 he => by
            obtain ⟨x, y, e1, e2, q1, q2⟩ := it j' z1 z2
            rw [List.getD_eq_getElem?_getD, List.getD_eq_getElem?_getD, e1, e2] at he ⊢
            have := deepAll_mem (List.mem_of_getElem? e1)
            have hne : x ≠ y := of_decide_eq_false he
            exact ih x y A.in1 _ _ (by omega) q1 q2 ((coks_get hc e1 e2).resolve_left hne) (by show A.units + 1 + n < cLine; omega))
        rw [l1, l2] at R
        have e := lexAt_tk (fun j => decide (ks.getD j (.int 0) = js.getD j (.int 0))) (fun j => TK.lt (ks.getD j (.int 0)) (js.getD j (.int 0))) ks js 0 hc (fun j' x y e1 e2 => by
          rw [Nat.zero_add, List.getD_eq_getElem?_getD, List.getD_eq_getElem?_getD, e1, e2]
          exact ⟨rfl, rfl⟩)
        rw [e] at R
        have : TK.lt (.tup ks) (.tup js) = (TK.cmps ks js == .lt) := by simp [TK.lt, TK.cmp]
        rw [this]
        exact R
      | _ => simp [TK.cok] at hc
end PV

set_option Elab.async false
set_option linter.all false
set_option maxRecDepth 100000
set_option maxHeartbeats 3999000
namespace SrtO
open PySem PyProof.Rows Srt
/-- what stood at s stands at h, and not at a -/
def Off (s : Shared) (a : Addr) (h : Heap) : Prop := ∀ b o, s.heap.get? b = some o → b ≠ a ∧ h.get? b = some o
/-- sorted(l) of a list or a tuple -/
theorem pv_sorted_sq {prog : Program} {w : World} {A : Around} {E : Value → Shared → Prop} {s : Shared} {l : Addr} {T : String} {o : Obj} {vs : List Value} {n : Nat} {ltv : Value → Value → Bool} {Q : Value → Shared → Prop} (O : Swo ltv) (hT : T = "list" ∨ T = "tuple") (ho : s.heap.get? l = some o) (hc : o.cls = .type T) (hd : o.data = .seq vs.toArray n) (hz : vs.length ≤ sizeLine)
    (hS : 2 ≤ vs.length → ∀ (h₁ : Heap) (a : Addr), h₁.get? a = some (seqObj "list" vs.toArray 0) → Off s a h₁ → SortableO prog w A.in1.in1 { s with heap := h₁ } a vs ltv)
    (h : ∀ (h' : Heap) (d : Addr) (out : List Value), Srtd ltv out → Stb ltv out vs → Off s d h' → (∃ n, h'.get? d = some (seqObj "list" out.toArray n)) → Q (.ref d) { s with heap := h' }) :
    wpAny (model prog w) A (call (.builtin "sorted") [.ref l]) Q E s :=
  Calls.call_function_entry kind_sorted plain_sorted entry_sorted (args_sorted1 _) (by
    unfold Builtin.«sorted»
    exact wpAny_bind (m := checkCount "sorted" 1 1 _) (wpAny_pure (wpAny_bind (wpAny_collect_seq l hT ho hc hd (fun h1 k1 => by
      rw [List.toList_toArray]
      have at1 : (h1.push (seqObj "list" vs.toArray 0)).get? h1.objs.size = some (seqObj "list" vs.toArray 0) := Heap.get?_push_size _ rfl
      have off1 : Off s h1.objs.size (h1.push (seqObj "list" vs.toArray 0)) := fun b o q => ⟨Nat.ne_of_lt (Heap.lt_size (k1 b o q)), Heap.get?_push_of_some _ (k1 b o q)⟩
      exact wpAny_bind (wpAny_newList (wpAny_bind (wpAny_holding (wpAny_call_entry slot_list_sort ⟨_, at1, rfl⟩ entry_list_sort
        (list_sort_ord O at1 hz (fun g => hS g _ _ at1 off1) fun out hs hb => ⟨_, rfl, wpAny_pure ⟨_, rfl, h _ _ out hs hb (fun b ob q => ⟨(off1 b ob q).1, (sortedHeap_old (off1 b ob q).1 (Heap.lt_size (off1 b ob q).2)).trans (off1 b ob q).2⟩) (sortedHeap_at at1)⟩⟩) (args_list_sort _)))) hz)) (by rw [List.size_toArray]; exact hz)))))
end SrtO
namespace PV
open L2 PyProof.Rows PySem PySem.Spec
open SrtO (Srtd Stb Swo SortableO Cmp lt2)
theorem TkIs.int_of {h : Heap} {i : Int} {v : Value} (x : TkIs h (.int i) v) : ∃ t, v = .int i t := by
  obtain ⟨as, r⟩ := x
  simp only [pdK] at r
  cases r
  exact ⟨_, rfl⟩
theorem TkIs.kept {h h' : Heap} (k : ∀ b o, h.get? b = some o → o.cls = .type "tuple" → h'.get? b = some o) : ∀ (n : Nat) (t : TK) (v : Value), t.deep ≤ n → TkIs h t v → TkIs h' t v := by
  have all : ∀ (n : Nat), (∀ (t : TK) (v : Value), t.deep ≤ n → TkIs h t v → TkIs h' t v) → ∀ (ts : List TK) (vs : List Value), TK.deepAll ts ≤ n → TksIs h ts vs → TksIs h' ts vs := by
    intro n ih ts
    induction ts with
    | nil => intro vs _ x; rw [x.nil]; exact ⟨_, .nil⟩
    | cons t ts iht =>
      intro vs hd x
      obtain ⟨v, r, rfl, h1, h2⟩ := x.cons
      simp only [TK.deepAll] at hd
      obtain ⟨as, q1⟩ := ih t v (by omega) h1
      obtain ⟨bs, q2⟩ := iht r (by omega) h2
      exact ⟨_, .cons q1 q2⟩
  intro n
  induction n with
  | zero =>
    intro t v hd x
    cases t with
    | int i => obtain ⟨u, rfl⟩ := x.int_of; exact ⟨_, .int _ _⟩
    | str i =>
      obtain ⟨as, r⟩ := x
      simp only [pdK] at r
      cases r
      exact ⟨_, .str _ _⟩
    | tup ks => simp [TK.deep] at hd
  | succ n ih =>
    intro t v hd x
    cases t with
    | int i => obtain ⟨u, rfl⟩ := x.int_of; exact ⟨_, .int _ _⟩
    | str i =>
      obtain ⟨as, r⟩ := x
      simp only [pdK] at r
      cases r
      exact ⟨_, .str _ _⟩
    | tup ks =>
      obtain ⟨a, o, items, m, rfl, ho, hc, hdt, hi⟩ := x.tup
      obtain ⟨as, r⟩ := all n ih ks items.toList (by simp [TK.deep] at hd; exact hd) hi
      exact ⟨as, .tuple (k a o ho hc) hc hdt r⟩
section
variable {w : World} {prog : Program} {s : Shared} {A : Around}
theorem lex_tk {b fin : Bool} {Q : Bool → Shared → Prop} : ∀ (ks js : List TK) (vs us : List Value) (i n : Nat), TksIs s.heap ks vs → TksIs s.heap js us → TK.coks ks js = true → TK.deepAll ks ≤ n → A.units + n < cLine → fin = decide (ks.length < js.length) →
    ((b && i == 0) = true → ∃ x y r r', ks = .int x :: r ∧ js = .int y :: r') → Q (TK.cmps ks js == .lt) s → PySem.W.KatLex prog w A b fin Q (vs.zip us) i s
  | [], [], vs, us, i, n, h1, h2, _, _, _, hf, _, q => by
    rw [h1.nil, h2.nil]
    refine PySem.W.kat_nil ?_
    rw [hf]
    simpa [TK.cmps] using q
  | [], y :: js, vs, us, i, n, h1, h2, _, _, _, hf, _, q => by
    rw [h1.nil]
    refine PySem.W.kat_nil ?_
    rw [hf]
    simpa [TK.cmps] using q
  | x :: ks, [], vs, us, i, n, h1, h2, _, _, _, hf, _, q => by
    rw [h2.nil, List.zip_nil_right]
    refine PySem.W.kat_nil ?_
    rw [hf]
    simpa [TK.cmps] using q
  | x :: ks, y :: js, vs, us, i, n, h1, h2, hc, hd, hu, hf, hb, q => by
    obtain ⟨v, vr, rfl, a1, a2⟩ := h1.cons
    obtain ⟨u, ur, rfl, b1, b2⟩ := h2.cons
    have hc' := hc
    simp only [TK.coks, Bool.and_eq_true, Bool.or_eq_true, decide_eq_true_eq] at hc'
    have hd' : max x.deep (TK.deepAll ks) ≤ n := by simpa [TK.deepAll] using hd
    rw [List.zip_cons_cons]
    refine PySem.W.kat_cons (eq_tk a1 b1 (by omega) prog w _ _ ?_)
    refine PySem.W.kat_go (fun e => ?_) fun e => ?_
    · have e : x = y := of_decide_eq_true e
      subst e
      refine PySem.W.kat_yes (lex_tk ks js vr ur (i + 1) n a2 b2 hc'.2 (by omega) hu (by rw [hf]; simp) (fun z => by simp at z) ?_)
      simpa [TK.cmps, cmp_refl] using q
    · have e : x ≠ y := of_decide_eq_false e
      have hk := hc'.1.resolve_left e
      have q' : Q (TK.lt x y) s := by
        have : (TK.cmps (x :: ks) (y :: js) == .lt) = TK.lt x y := by
          have hne := cok_ne hk e
          unfold TK.lt
          show ((match TK.cmp x y with | .eq => TK.cmps ks js | o => o) == .lt) = (TK.cmp x y == .lt)
          generalize TK.cmp x y = z at hne ⊢
          cases z with
          | eq => exact absurd rfl hne
          | _ => rfl
        rw [← this]
        exact q
      refine PySem.W.kat_no ?_
      cases hfl : (b && i == 0) with
      | true =>
        obtain ⟨p, p', r, r', e1, e2⟩ := hb hfl
        cases e1
        cases e2
        obtain ⟨t, rfl⟩ := a1.int_of
        obtain ⟨t', rfl⟩ := b1.int_of
        refine oneLt_int ?_
        have : TK.lt (.int p) (.int p') = decide (p < p') := by
          unfold TK.lt
          simp only [TK.cmp]
          split
          · simp_all
          · split <;> simp_all
        rw [← this]
        exact q'
      | false => exact PySem.W.kat_one _ _ (rc_tk n x y A v u (by omega) a1 b1 hk hu prog w _ _ q')
theorem coks_refl : ∀ ks : List TK, TK.coks ks ks = true
  | [] => rfl
  | k :: r => by simp [TK.coks, coks_refl r]
theorem cmp_tup {b : Bool} {vs : List Value} {kf : Value → TK} (hk : ∀ v ∈ vs, TkIs s.heap (kf v) v ∧ (kf v).deep ≤ 8 ∧ (if b then isTI (kf v) = true else ∃ ks, kf v = .tup ks)) (hc : ∀ v ∈ vs, ∀ u ∈ vs, kf v = kf u ∨ TK.cok (kf v) (kf u) = true) (hu : A.units + 8 < cLine) :
    Cmp prog w A s (tuples' b) (fun p => p.1 ∈ vs) (lt2 fun v u => TK.lt (kf v) (kf u)) := by
  intro p q hm hm'
  obtain ⟨a1, a2, a3⟩ := hk _ hm
  obtain ⟨b1, b2, b3⟩ := hk _ hm'
  have hcc := hc _ hm _ hm'
  show wpAny (model prog w) A (keyLt' (tuples' b) p.1 q.1) (fun r s' => s' = s ∧ r = TK.lt (kf p.1) (kf q.1)) (fun _ _ => False) s
  generalize kf p.1 = k1 at *
  generalize kf q.1 = k2 at *
  generalize p.1 = v at *
  generalize q.1 = u at *
  have t1 : ∃ ks, k1 = .tup ks := by
    cases b with
    | true =>
      simp only [if_true] at a3
      cases k1 <;> simp [isTI] at a3 ⊢
    | false => simpa using a3
  have t2 : ∃ ks, k2 = .tup ks := by
    cases b with
    | true =>
      simp only [if_true] at b3
      cases k2 <;> simp [isTI] at b3 ⊢
    | false => simpa using b3
  obtain ⟨ks, rfl⟩ := t1
  obtain ⟨js, rfl⟩ := t2
  obtain ⟨x, o, items, m, rfl, ho, hcl, hd, hi⟩ := a1.tup
  obtain ⟨y, o', items', m', rfl, ho', hcl', hd', hi'⟩ := b1.tup
  have l1 : items.size = ks.length := by rw [hi.length]; simp
  have l2 : items'.size = js.length := by rw [hi'.length]; simp
  have hco : TK.coks ks js = true := by
    rcases hcc with e | e
    · cases e; exact coks_refl _
    · simpa [TK.cok] using e
  refine PySem.W.kat_lt ho hd ho' hd' (lex_tk ks js _ _ 0 8 hi hi' hco (by simp [TK.deep] at a2; omega) hu (by rw [l1, l2]) (fun hb => ?_) ⟨rfl, by simp [TK.lt, TK.cmp]⟩)
  have hb : b = true := by simpa using hb
  subst hb
  simp only [if_true] at a3 b3
  cases ks with
  | nil => simp [isTI] at a3
  | cons k ks =>
    cases js with
    | nil => simp [isTI] at b3
    | cons j js =>
      cases k <;> simp [isTI] at a3
      cases j <;> simp [isTI] at b3
      exact ⟨_, _, _, _, rfl, rfl⟩
end
end PV

set_option Elab.async false
set_option linter.all false
set_option maxRecDepth 100000
set_option maxHeartbeats 3999000
namespace PV
open L2 PyProof.Rows PySem PySem.Spec
open SrtO (Srtd Stb Swo SortableO Cmp lt2)
section
variable {w : World} {prog : Program} {s : Shared} {A : Around}
/-- the first item of a key that is a tuple -/
theorem first_of {h : Heap} {k : TK} {r : List TK} {v : Value} (q : TkIs h (.tup (k :: r)) v) : ∃ a o items m f, v = .ref a ∧ h.get? a = some o ∧ o.cls = .type "tuple" ∧ o.data = .seq items m ∧ items[0]? = some f ∧ TkIs h k f := by
  obtain ⟨a, o, items, m, ev, ho, hc, hd, hi⟩ := q.tup
  obtain ⟨f, r, e, q1, _⟩ := hi.cons
  exact ⟨a, o, items, m, f, ev, ho, hc, hd, by rw [← Array.getElem?_toList, e]; rfl, q1⟩
theorem tups_of {h : Heap} {kf : Value → TK} {vs : List Value} (hp : ∀ v ∈ vs, TkIs h (kf v) v ∧ ∃ k r, kf v = .tup (k :: r)) : ∃ fs : List Value, PySem.W.KatTups h vs fs ∧ fs.length = vs.length ∧ ∀ f ∈ fs, ∃ v ∈ vs, ∃ k r, kf v = .tup (k :: r) ∧ TkIs h k f := by
  induction vs with
  | nil => exact ⟨_, .nil, rfl, fun _ z => nomatch z⟩
  | cons v vs ih =>
    have ⟨fs, g, n, all⟩ := ih fun u hu => hp u (.tail _ hu)
    have ⟨q, k, r, e⟩ := hp v (.head _)
    have ⟨a, o, items, m, f, ev, ho, hc, hd, h0, q1⟩ := first_of (e ▸ q)
    subst ev
    exact ⟨f :: fs, .cons ho hc hd h0 g, congrArg Nat.succ n, List.forall_mem_cons.mpr ⟨⟨_, .head _, k, r, e, q1⟩, fun u hu => (all u hu).imp fun _ z => ⟨.tail _ z.1, z.2⟩⟩⟩
theorem data_sortable {a : Addr} {vs : List Value} {kf : Value → TK} (h2 : 2 ≤ vs.length) (hk : ∀ v ∈ vs, TkIs s.heap (kf v) v ∧ (kf v).deep ≤ 8) (hkd : (∀ v ∈ vs, isI (kf v) = true) ∨ (∀ v ∈ vs, isTI (kf v) = true) ∨ ∀ v ∈ vs, isTT (kf v) = true)
    (hc : ∀ v ∈ vs, ∀ u ∈ vs, kf v = kf u ∨ TK.cok (kf v) (kf u) = true) (hu : A.units + 8 < cLine) (ha : ∀ o, s.heap.get? a = some o → o.cls ≠ .type "tuple") : SortableO prog w A s a vs fun v u => TK.lt (kf v) (kf u) := by
  intro h' keep
  have hk' : ∀ v ∈ vs, TkIs h' (kf v) v ∧ (kf v).deep ≤ 8 := fun v hv => by
    obtain ⟨q1, q2⟩ := hk v hv
    exact ⟨TkIs.kept (fun b o e c => keep b o (fun z => by subst z; exact ha o e c) e) 8 _ _ q2 q1, q2⟩
  rcases hkd with h | h | h
  · have hi : ∀ v ∈ vs, ∃ i t, kf v = .int i ∧ v = .int i t := fun v hv => by
      have q := (hk' v hv).1
      have := h v hv
      cases e : kf v with
      | int i =>
        rw [e] at q
        obtain ⟨t, rfl⟩ := q.int_of
        exact ⟨i, t, rfl, rfl⟩
      | str _ => rw [e] at this; cases this
      | tup _ => rw [e] at this; cases this
    refine ⟨oneType', fun Q E hq => ?_, fun p q hm hm' => ?_⟩
    · refine PySem.W.kas_kind (T := .type "int") h2 (fun v hv => ?_) (by decide +kernel) (by rfl) hq
      obtain ⟨i, t, _, rfl⟩ := hi v hv
      exact PySem.W.Looks.now
    · obtain ⟨i, t, e1, e2⟩ := hi _ hm
      obtain ⟨j, t', e3, e4⟩ := hi _ hm'
      show wpAny (model prog w) A (keyLt' oneType' p.1 q.1) (fun r s' => s' = { s with heap := h' } ∧ r = TK.lt (kf p.1) (kf q.1)) (fun _ _ => False) { s with heap := h' }
      rw [e1, e3, e2, e4]
      refine PySem.W.kat_lt_int ⟨rfl, ?_⟩
      unfold TK.lt
      simp only [TK.cmp]
      split
      · simp_all
      · split <;> simp_all
  · have ht : ∀ v ∈ vs, TkIs h' (kf v) v ∧ ∃ k r, kf v = .tup (k :: r) := fun v hv => by
      refine ⟨(hk' v hv).1, ?_⟩
      have := h v hv
      cases e : kf v with
      | tup ks =>
        rw [e] at this
        cases ks with
        | nil => cases this
        | cons k r => exact ⟨k, r, rfl⟩
      | _ => rw [e] at this; cases this
    obtain ⟨fs, h1, h3, h4⟩ := tups_of ht
    refine ⟨tuples' true, fun Q E hq => ?_, cmp_tup (s := { s with heap := h' }) (fun v hv => ⟨(hk' v hv).1, (hk' v hv).2, by simpa using h v hv⟩) hc hu⟩
    refine PySem.W.kat_kind (s := { s with heap := h' }) (T := .type "int") h1 (by omega) (fun f hm => ?_) (by rfl) ?_
    · obtain ⟨v, hv, k, r, e, q⟩ := h4 f hm
      have := h v hv
      rw [e] at this
      cases k with
      | int i => obtain ⟨t, rfl⟩ := q.int_of; exact PySem.W.Looks.now
      | _ => cases this
    · rw [show (Value.type "int" != Value.type "tuple") = true by decide +kernel]; exact hq
  · have ht : ∀ v ∈ vs, TkIs h' (kf v) v ∧ ∃ k r, kf v = .tup (k :: r) := fun v hv => by
      refine ⟨(hk' v hv).1, ?_⟩
      have := h v hv
      cases e : kf v with
      | tup ks =>
        rw [e] at this
        cases ks with
        | nil => cases this
        | cons k r => exact ⟨k, r, rfl⟩
      | _ => rw [e] at this; cases this
    obtain ⟨fs, h1, h3, h4⟩ := tups_of ht
    refine ⟨tuples' false, fun Q E hq => ?_, cmp_tup (s := { s with heap := h' }) (fun v hv => ⟨(hk' v hv).1, (hk' v hv).2, by
      obtain ⟨k, r, e⟩ := (ht v hv).2
      exact ⟨_, e⟩⟩) hc hu⟩
    refine PySem.W.kat_kind (s := { s with heap := h' }) (T := .type "tuple") h1 (by omega) (fun f hm => ?_) (by rfl) ?_
    · obtain ⟨v, hv, k, r, e, q⟩ := h4 f hm
      have := h v hv
      rw [e] at this
      cases k with
      | tup ks =>
        obtain ⟨a', o, items, m, rfl, ho, hcl, hd, hi⟩ := q.tup
        have z : PySem.W.Looks (model prog w) h' (typeOf (.ref a')) o.cls := (PySem.W.Looks.ld ho).andThen .now
        rw [hcl] at z
        exact z
      | _ => cases this
    · rw [show (Value.type "tuple" != Value.type "tuple") = false by decide +kernel]; exact hq
end
/-! ### sorted(xs) -/
def sortedD (ds : List D) (S : Sto) : PR := match ds with
  | [d] => (match seqOf S d with
    | some xs => if sortOk xs = true then some (.loc S.length, S ++ [.lst (isort ltD xs)]) else none
    | none => none)
  | _ => none
theorem mapO_mem {α β : Type} {f : α → Option β} : ∀ {l : List α} {m : List β}, mapO f l = some m → ∀ a ∈ l, ∃ b ∈ m, f a = some b
  | [], _, _, a, h => nomatch h
  | x :: r, m, e, a, h => by
    obtain ⟨b, bs, e1, e2, rfl⟩ := mapO_cons e
    cases h with
    | head => exact ⟨b, .head _, e1⟩
    | tail _ z => exact (mapO_mem e2 a z).imp fun _ q => ⟨.tail _ q.1, q.2⟩
/-- an item, what it is, its value -/
inductive Trip (R : D → V → Value → Prop) : List D → List V → List Value → List (D × V × Value) → Prop
  | nil : Trip R [] [] [] []
  | cons {d : D} {v : V} {u : Value} {ds : List D} {vs : List V} {us : List Value} {l : List (D × V × Value)} : R d v u → Trip R ds vs us l → Trip R (d :: ds) (v :: vs) (u :: us) ((d, v, u) :: l)
theorem trip_of {K : PySem.W.Frag} {mw : MW} {o : Wd} : ∀ {ds : List D} {vs : List V} {us : List Value}, RDs K mw o ds vs → Vals vs us → ∃ l, Trip (fun d v u => RD K mw o d v ∧ RelV v u) ds vs us l
  | _, _, _, .nil, .nil => ⟨[], .nil⟩
  | _, _, _, .cons r t, .cons q s => by
    obtain ⟨l, h⟩ := trip_of t s
    exact ⟨_, .cons ⟨r, q⟩ h⟩
section
variable {R : D → V → Value → Prop}
theorem Trip.all : ∀ {ds : List D} {vs : List V} {us : List Value} {l : List (D × V × Value)}, Trip R ds vs us l → (l.map (·.1) = ds ∧ l.map (fun x => x.2.1) = vs ∧ l.map (fun x => x.2.2) = us ∧ ∀ x ∈ l, R x.1 x.2.1 x.2.2)
  | _, _, _, _, .nil => ⟨rfl, rfl, rfl, fun _ h => nomatch h⟩
  | _, _, _, _, .cons r t => by
    obtain ⟨h1, h2, h3, h4⟩ := t.all
    exact ⟨by simp [h1], by simp [h2], by simp [h3], List.forall_mem_cons.mpr ⟨r, h4⟩⟩
end
theorem rds_of {K : PySem.W.Frag} {mw : MW} {o : Wd} : ∀ {l : List (D × V × Value)}, (∀ x ∈ l, RD K mw o x.1 x.2.1 ∧ RelV x.2.1 x.2.2) → RDs K mw o (l.map (·.1)) (l.map fun x => x.2.1) ∧ Vals (l.map fun x => x.2.1) (l.map fun x => x.2.2)
  | [], _ => ⟨.nil, .nil⟩
  | x :: r, h => by
    obtain ⟨h1, h2⟩ := rds_of (l := r) fun y hy => h y (List.mem_cons_of_mem _ hy)
    obtain ⟨q1, q2⟩ := h x List.mem_cons_self
    exact ⟨.cons q1 h1, .cons q2 h2⟩
theorem tkOf_is {X : Cx} {pins : List (Addr × Obj)} {σ : L2.St} {s : Shared} {o : Wd} {d : D} {v : V} {u : Value} {k : TK} (I : Inv X pins σ o.H s) (r : RD X.K X.mw o d v) (ru : RelV v u) (h : tkOf d = some k) : TkIs s.heap k u := by
  have := tkOf_keyD h
  subst this
  exact Dp.reads I _ _ _ (key_reads r) ru
section
variable {X : Cx}
theorem cd_sorted (hu : X.A.units + 64 < cLine) : CallD X (.builtin "sorted") sortedD := by
  intro pins s σ H xs us Q I rx hh
  obtain ⟨o, ds, S, d, S', rfl, r, rs, e, q⟩ := hh
  unfold sortedD at e
  split at e
  · obtain ⟨v, rfl, r1⟩ := r.one
    split at e
    · rename_i xs hs
      split at e
      · rename_i hok
        cases e
        obtain ⟨a, vs, rfl, p, hsq⟩ := r1.seq rs hs
        obtain ⟨u, rfl, rfl⟩ : ∃ u, us = [u] ∧ u = Value.ref a := vals1 rx
        -- the object
        obtain ⟨T, its, ob, n, hT, ho, hc, hd, rv, hz⟩ : ∃ (T : String) (its : List Value) (ob : Obj) (n : Nat), (T = "list" ∨ T = "tuple") ∧ s.heap.get? a = some ob ∧ ob.cls = .type T ∧ ob.data = .seq its.toArray n ∧ Vals vs its ∧ vs.length ≤ sizeLine := by
          rcases hsq with h | h
          · obtain ⟨its, rv, pl, hz⟩ := I.list h
            obtain ⟨ob, ho, hc, n, hd⟩ := pl.isList
            exact ⟨"list", its, ob, n, .inl rfl, ho, hc, hd, rv, hz⟩
          · obtain ⟨its, rv, ⟨ob, ho, hc, n, hd⟩, hz⟩ := I.tuple h
            exact ⟨"tuple", its, ob, n, .inr rfl, ho, hc, hd, rv, hz⟩
        unfold sortOk at hok
        split at hok
        · rename_i ks hks
          rw [Bool.and_eq_true] at hok
          obtain ⟨hkind, hcok⟩ := hok
          obtain ⟨l, tl⟩ := trip_of p rv
          obtain ⟨l1, l2, l3, l4⟩ := tl.all
          -- the key of a value
          have hkey : ∀ x ∈ l, ∃ k ∈ ks, tkOf x.1 = some k ∧ TkIs s.heap k x.2.2 ∧ skey x.1 = k := fun x hx => by
            have hm : x.1 ∈ xs := by rw [← l1]; exact List.mem_map.mpr ⟨x, hx, rfl⟩
            obtain ⟨k, hk, e⟩ := mapO_mem hks _ hm
            exact ⟨k, hk, e, tkOf_is I (l4 x hx).1 (l4 x hx).2 e, by unfold skey; rw [e]; rfl⟩
          let kf : Value → TK := fun u => match Classical.propDecidable (∃ k, TkIs s.heap k u) with
            | .isTrue h => Classical.choose h
            | .isFalse _ => .int 0
          have kf_eq : ∀ u k, TkIs s.heap k u → kf u = k := fun u k h => by
            show (match Classical.propDecidable (∃ k, TkIs s.heap k u) with
              | .isTrue h => Classical.choose h
              | .isFalse _ => .int 0) = k
            split
            · rename_i h' _
              obtain ⟨as, q1⟩ := Classical.choose_spec h'
              obtain ⟨bs, q2⟩ := h
              exact pdK_inj (SeqAt.plain_unique _ _ _ _ _ (pdK_plain _) q1 q2)
            · rename_i h' _
              exact absurd ⟨k, h⟩ h'
          have kfl : ∀ x ∈ l, kf x.2.2 = skey x.1 := fun x hx => by
            obtain ⟨k, _, _, h1, h2⟩ := hkey x hx
            rw [h2]
            exact kf_eq _ _ h1
          have hval : ∀ u ∈ its, ∃ x ∈ l, x.2.2 = u := fun u hm => by
            rw [← l3] at hm
            obtain ⟨x, hx, e⟩ := List.mem_map.mp hm
            exact ⟨x, hx, e⟩
          have hO : Swo fun v u => TK.lt (kf v) (kf u) := swo_by lt_swo
          have hcok' : ∀ a ∈ ks, ∀ b ∈ ks, a.deep ≤ 8 ∧ (a = b ∨ TK.cok a b = true) := fun a ha b hb => by
            have := List.all_eq_true.mp (List.all_eq_true.mp hcok a ha) b hb
            simpa using this
          refine SrtO.pv_sorted_sq hO hT ho hc hd (by rw [← rv.length]; exact hz) (fun h2 h₁ a' ha' kk => ?_) fun h' dd out hs' hb kp hn => ?_
          · refine data_sortable (s := { s with heap := h₁ }) h2 (fun v hv => ?_) ?_ (fun v hv u hu => ?_) (by show X.A.units + 1 + 1 + 8 < cLine; omega) fun o' e' => ?_
            · obtain ⟨x, hx, rfl⟩ := hval v hv
              obtain ⟨k, hk, _, h1, h3⟩ := hkey x hx
              rw [kf_eq _ _ h1]
              have hdp := (hcok' k hk k hk).1
              exact ⟨TkIs.kept (fun b o e _ => (kk b o e).2) 8 _ _ hdp h1, hdp⟩
            · have tr : ∀ (g : TK → Bool), ks.all g = true → ∀ v ∈ its, g (kf v) = true := fun g hg v hv => by
                obtain ⟨x, hx, rfl⟩ := hval v hv
                obtain ⟨k, hk, _, h1, h3⟩ := hkey x hx
                rw [kf_eq _ _ h1]
                exact List.all_eq_true.mp hg k hk
              unfold kindOk at hkind
              rw [Bool.or_eq_true, Bool.or_eq_true] at hkind
              rcases hkind with (z | z) | z
              · exact .inl (tr _ z)
              · exact .inr (.inl (tr _ z))
              · exact .inr (.inr (tr _ z))
            · obtain ⟨x, hx, rfl⟩ := hval v hv
              obtain ⟨y, hy, rfl⟩ := hval u hu
              obtain ⟨k, hk, _, h1, h3⟩ := hkey x hx
              obtain ⟨k', hk', _, h1', h3'⟩ := hkey y hy
              rw [kf_eq _ _ h1, kf_eq _ _ h1']
              exact (hcok' k hk k' hk').2
            · have e'' : some o' = some (seqObj "list" its.toArray 0) := e'.symm.trans ha'
              cases e''
              exact fun c => nomatch (show "list" = "tuple" from Value.type.inj c)
          · -- the sorted list is the one
            have hL : Swo fun (x y : D × V × Value) => TK.lt (kf x.2.2) (kf y.2.2) := swo_by lt_swo
            let l' := isort (fun (x y : D × V × Value) => TK.lt (kf x.2.2) (kf y.2.2)) l
            have m1 : Srtd (fun v u => TK.lt (kf v) (kf u)) (l'.map fun x => x.2.2) := SrtO.srtd_map (isort_srtd hL l)
            have m2 : Stb (fun v u => TK.lt (kf v) (kf u)) (l'.map fun x => x.2.2) its := by
              rw [← l3]
              exact SrtO.Stb.map hO (fun x : D × V × Value => x.2.2) (isort_stb hL l)
            have eo : out = l'.map fun x => x.2.2 := SrtO.stb_uniq hO hs' m1 ⟨hb.perm.trans m2.perm.symm, fun x => (hb.cls x).trans (m2.cls x).symm⟩
            have hl' : ∀ x ∈ l', RD X.K X.mw o x.1 x.2.1 ∧ RelV x.2.1 x.2.2 := fun x hx => l4 x ((isort_perm l).mem_iff.mp hx)
            obtain ⟨d1, d2⟩ := rds_of hl'
            have ed : l'.map (·.1) = isort ltD xs := by
              have : l' = isort (fun x y => ltD x.1 y.1) l := isort_congr fun x hx y hy => by
                show TK.lt (kf x.2.2) (kf y.2.2) = TK.lt (skey x.1) (skey y.1)
                rw [kfl x hx, kfl y hy]
              rw [this, isort_map, l1]
            rw [ed] at d1
            rw [← eo] at d2
            obtain ⟨n', hn'⟩ := hn
            have hnone : s.heap.get? dd = none := by
              cases z : s.heap.get? dd with
              | none => rfl
              | some o' => exact absurd rfl (kp dd o' z).1
            have hHn : o.H dd = none := I.hok.gone hnone
            have I2 : Inv X pins σ (upd o.H dd (.lst (l'.map fun x => x.2.1))) { s with heap := h', toks := s.toks } := I.laidN (fun b u e => (kp b u e).2) hnone hHn ⟨by
              rw [d2.length, hb.perm.length_eq, ← rv.length]; exact hz, out, n', d2, hn'⟩
            obtain ⟨a1, a2, a3⟩ := rs.newLst hHn d1
            exact ⟨.ref dd, _, I2, rfl, q _ _ a1 a2 a3⟩
        · cases hok
      · cases e
    · cases e
  · cases e
end
end PV

set_option Elab.async false
set_option linter.all false
set_option maxRecDepth 100000
set_option maxHeartbeats 3999000
namespace PV
open L2 PyProof.Rows PySem PySem.Spec

/-- room for k calls -/
abbrev Rm (k : Nat) (A : Around) : Prop := Room k A
/-- a def keeps its promise wherever there is room -/
abbrev FnG (P : Program) (w : World) (K : PySem.W.Frag) (mg : Str → Option Value) (base : Heap) (k : Nat) (f : Addr) (fd : FuncData) (ps : List Str) (sp : Sp) : Prop :=
  FnOk P w K mg base (CX P w) k f fd ps sp

/-! ### how arguments come to parameters -/
inductive Src where
  | pos (i : Nat) | kw (i : Nat) | df (i : Nat)
def pick {α : Type} (us ws ds : List α) : Src → Option α
  | .pos i => us[i]?
  | .kw i => ws[i]?
  | .df i => ds[i]?
def arr {α : Type} (us ws ds : List α) : List Src → List α
  | [] => []
  | c :: r => match pick us ws ds c with
    | some x => x :: arr us ws ds r
    | none => arr us ws ds r
structure Shape where
  n : Nat
  ks : List Str
  src : List Src
theorem pick_vals {vs zs dvs : List V} {us ws its : List Value} (a : Vals vs us) (b : Vals zs ws) (c : Vals dvs its) (x : Src) : (∃ v u, pick vs zs dvs x = some v ∧ pick us ws its x = some u ∧ RelV v u) ∨ (pick vs zs dvs x = none ∧ pick us ws its x = none) := by
  have one : ∀ {xs : List V} {ys : List Value} (i : Nat), Vals xs ys → (∃ v u, xs[i]? = some v ∧ ys[i]? = some u ∧ RelV v u) ∨ (xs[i]? = none ∧ ys[i]? = none) := fun {xs ys} i r => by
    cases e : xs[i]? with
    | none => exact .inr ⟨rfl, r.none_of e⟩
    | some v =>
      obtain ⟨u, h1, h2⟩ := r.get e
      exact .inl ⟨v, u, rfl, h1, h2⟩
  cases x with
  | pos i => exact one i a
  | kw i => exact one i b
  | df i => exact one i c
theorem arr_vals {vs zs dvs : List V} {us ws its : List Value} (a : Vals vs us) (b : Vals zs ws) (c : Vals dvs its) : ∀ src : List Src, Vals (arr vs zs dvs src) (arr us ws its src)
  | [] => .nil
  | x :: r => by
    unfold arr
    rcases pick_vals a b c x with ⟨v, u, e1, e2, q⟩ | ⟨e1, e2⟩
    · rw [e1, e2]; exact .cons q (arr_vals a b c r)
    · rw [e1, e2]; exact arr_vals a b c r
theorem pick_rds {K : PySem.W.Frag} {mw : MW} {o : Wd} {ds es fs : List D} {vs zs ws : List V} (a : RDs K mw o ds vs) (b : RDs K mw o es zs) (c : RDs K mw o fs ws) (x : Src) : (∃ d v, pick ds es fs x = some d ∧ pick vs zs ws x = some v ∧ RD K mw o d v) ∨ (pick ds es fs x = none ∧ pick vs zs ws x = none) := by
  have one : ∀ {xs : List D} {ys : List V} (i : Nat), RDs K mw o xs ys → (∃ d v, xs[i]? = some d ∧ ys[i]? = some v ∧ RD K mw o d v) ∨ (xs[i]? = none ∧ ys[i]? = none) := fun {xs ys} i r => by
    cases e : xs[i]? with
    | none => exact .inr ⟨rfl, List.getElem?_eq_none_iff.mpr (r.none' e)⟩
    | some v =>
      obtain ⟨u, h1, h2⟩ := r.get e
      exact .inl ⟨v, u, rfl, h1, h2⟩
  cases x with
  | pos i => exact one i a
  | kw i => exact one i b
  | df i => exact one i c
theorem arr_rds {K : PySem.W.Frag} {mw : MW} {o : Wd} {ds es fs : List D} {vs zs ws : List V} (a : RDs K mw o ds vs) (b : RDs K mw o es zs) (c : RDs K mw o fs ws) : ∀ src : List Src, RDs K mw o (arr ds es fs src) (arr vs zs ws src)
  | [] => .nil
  | x :: r => by
    unfold arr
    rcases pick_rds a b c x with ⟨v, u, e1, e2, q⟩ | ⟨e1, e2⟩
    · rw [e1, e2]; exact .cons q (arr_rds a b c r)
    · rw [e1, e2]; exact arr_rds a b c r

/-! ### a def's promise over data -/
def spD (K : PySem.W.Frag) (mw : MW) (n : Nat) (F : List D → Sto → Out D) : Sp := fun vs H Q E => ∃ o ds S, o.H = H ∧ RDs K mw o ds vs ∧ RS K mw o S ∧ ds.length = n ∧
  Post K mw (fun x o' => ∀ c od, RX K mw o' x c od → E c od o'.H) (fun d _ o' => ∀ v, RD K mw o' d v → Q v o'.H) o (F ds S)
/-- how a def is called: its place, its defaults, the ways -/
structure Cal (P : Program) (w : World) (K : PySem.W.Frag) (mg : Str → Option Value) (base : Heap) (k : Nat) (x : Str) (dfl : List D) (shs : List Shape) (F : List D → Sto → Out D) : Prop where
  ex : ∃ (f : Addr) (fd : FuncData) (ps : List Str) (dvs : List V), mg x = some (.ref f) ∧ PySem.W.keepIn K (.ref f) = true ∧ FnG P w K mg base k f fd ps (spD K ⟨mg, w⟩ ps.length F) ∧ (∀ o : Wd, RDs K ⟨mg, w⟩ o dfl dvs) ∧
    (∀ ds S, ds.length ≠ ps.length → F ds S = .stk) ∧
    ∀ sh ∈ shs, ∃ its, Vals dvs its ∧ ∀ (s : Shared) (us ws : List Value), K.In s.heap → us.length = sh.n → ws.length = sh.ks.length → BindsTo s fd ⟨us, sh.ks.zip ws⟩ (ps.zip (arr us ws its sh.src))
def eCall (F : List D → Sto → Out D) (src : List Src) (dfl : List D) (fa fk : FA) : FE := fun env S => (fa env S).bind fun ds S1 => (fk env S1).bind fun zs S2 => F (arr ds zs dfl src) S2
section
variable {X : Cx} {W : WX} {a b c : Expr} {es : List Expr} {kws : List Keyword} {fr fk : FA} {pos : Pos}
/-- the values of the keywords -/
theorem d_knil : PK X [] (tA X.K X.mw W aNil) := ⟨fun po pins s σ H Q I h => pk_nil.run po pins s σ H Q I (by
  obtain ⟨env, S, o, ⟨rfl, re, rs⟩, p⟩ := h
  exact p.here rs [] .nil)⟩
theorem d_kcons {nm : Option Str} {kpos : Pos} {fa : FE} (ha : PE X a (tE X.K X.mw W fa)) (hr : PK X kws (tA X.K X.mw W fk)) : PK X (⟨nm, a, kpos⟩ :: kws) (tA X.K X.mw W (aCons fa fk)) := ⟨fun po pins s σ H Q I h => (pk_cons (nm := nm) (kpos := kpos) ha hr).run po pins s σ H Q I (by
  obtain ⟨env, S, o, ⟨rfl, re, rs⟩, p⟩ := h
  refine ⟨env, S, o, ⟨rfl, re, rs⟩, (Post.bind p).imp fun d1 S1 o1 l1 rs1 p1 v1 r1 => ?_⟩
  refine ⟨env, S1, o1, ⟨rfl, re.up l1, rs1⟩, (Post.bind p1).imp fun ds S2 o2 l2 rs2 p2 vs r2 => ?_⟩
  exact p2.here rs2 _ (.cons (r1.up l2) r2))⟩
theorem run_g {k : Nat} {f : Addr} {fd : FuncData} {ps : List Str} {F : List D → Sto → Out D} {args : Args} {pins : List (Addr × Obj)} {σ : L2.St} {s : Shared} {Q : VK} {us : List Value} {vs : List V} {o : Wd} {ds : List D} {S : Sto}
    (G : FnG X.prog X.w X.K X.mg X.base k f fd ps (spD X.K X.mw ps.length F)) (hst : ∀ ds S, ds.length ≠ ps.length → F ds S = .stk) (hr : Rm k X.A) (tk : Takes X W) (hb : BindsTo s fd args (ps.zip us)) (r : Vals vs us) (I : Inv X pins σ o.H s) (rd : RDs X.K X.mw o ds vs) (rs : RS X.K X.mw o S)
    (p : PostV X.K X.mw W σ Q o (F ds S)) : codeAny (model X.prog X.w) X.A (.call (.ref f) args) (fun r s' => match r with
      | .ok (.ret u) => EP X pins σ Q u s'
      | .ok _ => False
      | .error e => X.xe e s') s := by
  have hl : ds.length = ps.length := by
    by_cases e : ds.length = ps.length
    · exact e
    · rw [hst ds S e] at p
      exact False.elim p
  refine codeAny_mono (G.run X.A X.stack s o.H args us vs Q (fun c od H' => W c od σ H') hr I.env0 hb r ⟨o, ds, S, rfl, rd, rs, hl, p⟩) fun r s' hq => ?_
  cases r with
  | error e => exact tk e s' (XE.of_call I (fun _ _ _ h => h) hq)
  | ok fl =>
    cases fl with
    | ret u => exact I.after hq
    | next => exact hq
    | brk => exact hq
    | cont => exact hq
theorem call_of {f : Value} {us : List Value} {kw : List (Str × Value)} {s : Shared} {Q : Value → Shared → Prop} (h : codeAny (model X.prog X.w) X.A (.call f ⟨us, kw⟩) (fun r s' => match r with
      | .ok (.ret u) => Q u s'
      | .ok _ => False
      | .error e => X.xe e s') s) : wpAny (model X.prog X.w) X.A (call f us kw) Q X.xe s := by
  refine wpAny_call (codeAny_mono h fun r s' hq => ?_)
  cases r with
  | error e => exact hq
  | ok fl =>
    cases fl with
    | ret u => exact hq
    | next => exact False.elim hq
    | brk => exact False.elim hq
    | cont => exact False.elim hq
theorem call_fin {k : Nat} {f : Addr} {fd : FuncData} {ps : List Str} {dvs : List V} {its : List Value} {dfl : List D} {F : List D → Sto → Out D} {sh : Shape} {pins : List (Addr × Obj)} {σ : L2.St} {Q : VK} {us ws : List Value} {vs zs : List V} {s2 : Shared} {o1 o2 : Wd} {ds es : List D} {S2 : Sto}
    (G : FnG X.prog X.w X.K X.mg X.base k f fd ps (spD X.K X.mw ps.length F)) (hst : ∀ ds S, ds.length ≠ ps.length → F ds S = .stk) (hr : Rm k X.A) (tk : Takes X W) (hdf : ∀ o : Wd, RDs X.K X.mw o dfl dvs) (rdf : Vals dvs its)
    (hbind : ∀ (s : Shared) (us ws : List Value), X.K.In s.heap → us.length = sh.n → ws.length = sh.ks.length → BindsTo s fd ⟨us, sh.ks.zip ws⟩ (ps.zip (arr us ws its sh.src)))
    (I2 : Inv X pins σ o2.H s2) (r : Vals vs us) (rz : Vals zs ws) (rd : RDs X.K X.mw o1 ds vs) (l2 : Le X.K o1 o2) (rd2 : RDs X.K X.mw o2 es zs) (rs2 : RS X.K X.mw o2 S2) (n1 : ds.length = sh.n) (n2 : es.length = sh.ks.length)
    (q : PostV X.K X.mw W σ Q o2 (F (arr ds es dfl sh.src) S2)) : wpAny (model X.prog X.w) X.A (call (.ref f) us (sh.ks.zip ws)) (EP X pins σ Q) X.xe s2 :=
  call_of (run_g (us := arr us ws its sh.src) (vs := arr vs zs dvs sh.src) G hst hr tk (hbind s2 us ws I2.kIn (by rw [← r.length, ← rd.length, n1]) (by rw [← rz.length, ← rd2.length, n2])) (arr_vals r rz rdf sh.src) I2 (arr_rds (rd.up l2) rd2 (hdf o2) sh.src) rs2 q)
/-- f(e, .., k = v, ..) -/
theorem d_call {k : Nat} {x : Str} {p : Pos} {dfl : List D} {shs : List Shape} {F : List D → Sto → Out D} {sh : Shape} (C : Cal X.prog X.w X.K X.mg X.base k x dfl shs F) (hsh : sh ∈ shs) (hr : Rm k X.A) (tk : Takes X W) (hg : Gl X x)
    (ha : PA X (a :: es) (tA X.K X.mw W fr)) (hl : LenA fr sh.n) (hkw : PK X kws (tA X.K X.mw W fk)) (hkl : LenA fk sh.ks.length) (hks : (backToKw pos (keywordEach kws X.env)).filterMap (·.1) = sh.ks) (hall : (backToKw pos (keywordEach kws X.env)).all (·.1.isSome) = true)
    (hdb : (x == ("__debug__" : Str)) = false) (he : starEach (a :: es) X.env = (false, eval a X.env) :: starEach es X.env)
    (hpl : ((backTo pos (starEach (a :: es) X.env)).any (·.1) || (backToKw pos (keywordEach kws X.env)).any (·.1.isNone)) = false) :
    PE X (.Call (.Name x p) (a :: es) kws pos) (tE X.K X.mw W (eCall F sh.src dfl fr fk)) := by
  obtain ⟨f, fd, ps, dvs, hm, hk, G, hdf, hst, hsp⟩ := C.ex
  obtain ⟨its, rdf, hbind⟩ := hsp sh hsh
  refine ⟨fun pins s σ H Q I ⟨env, S, o, ⟨eo, re, rs⟩, p⟩ => wpAny_Call_Name_kw (ld_glob I hg hm ?_ hdb)⟩
  subst eo
  refine PySem.W.callWith_KW (h₀ := X.base) (first := []) I.ok.mod.kin hk hall (thn (ha.run pos pins s σ o.H (fun vs H1 => ∃ ds S1 o1, o1.H = H1 ∧ Le X.K o o1 ∧ RS X.K X.mw o1 S1 ∧ RDs X.K X.mw o1 ds vs ∧ ds.length = sh.n ∧ PostV X.K X.mw W σ Q o1 ((fk env S1).bind fun zs S2 => F (arr ds zs dfl sh.src) S2)) I
    ⟨env, S, o, ⟨rfl, re, rs⟩, (postLen (Post.bind p) (hl env S)).imp fun ds S1 o1 l1 rs1 p1 vs r1 => ⟨ds, S1, o1, rfl, l1, rs1, r1, p1.1, p1.2⟩⟩) fun us s1 ⟨vs, H1, I1, r, ds, S1, o1, e1, l1, rs1, rd1, n1, p1⟩ => ?_) hpl he
  subst e1
  refine thn (hkw.run pos pins s1 σ o1.H (fun zs H2 => ∃ es S2 o2, o2.H = H2 ∧ Le X.K o1 o2 ∧ RS X.K X.mw o2 S2 ∧ RDs X.K X.mw o2 es zs ∧ es.length = sh.ks.length ∧ PostV X.K X.mw W σ Q o2 (F (arr ds es dfl sh.src) S2)) I1
    ⟨env, S1, o1, ⟨rfl, re.up l1, rs1⟩, (postLen (Post.bind p1) (hkl env S1)).imp fun es S2 o2 l2 rs2 p2 zs r2 => ⟨es, S2, o2, rfl, l2, rs2, r2, p2.1, p2.2⟩⟩) fun ws s2 ⟨zs, H2, I2, rz, es, S2, o2, e2, l2, rs2, rd2, n2, p2⟩ => ⟨I2.kIn, ?_⟩
  subst e2
  rw [hks]
  exact call_fin G hst hr tk hdf rdf hbind I2 r rz rd1 l2 rd2 rs2 n1 n2 p2
/-- f(k = v, ..), f() -/
theorem d_call0 {k : Nat} {x : Str} {p : Pos} {dfl : List D} {shs : List Shape} {F : List D → Sto → Out D} {sh : Shape} (C : Cal X.prog X.w X.K X.mg X.base k x dfl shs F) (hsh : sh ∈ shs) (hr : Rm k X.A) (tk : Takes X W) (hg : Gl X x) (hn : sh.n = 0)
    (hkw : PK X kws (tA X.K X.mw W fk)) (hkl : LenA fk sh.ks.length) (hks : (backToKw pos (keywordEach kws X.env)).filterMap (·.1) = sh.ks) (hall : (backToKw pos (keywordEach kws X.env)).all (·.1.isSome) = true)
    (hdb : (x == ("__debug__" : Str)) = false) (hpl : ((backTo pos (starEach [] X.env)).any (·.1) || (backToKw pos (keywordEach kws X.env)).any (·.1.isNone)) = false) :
    PE X (.Call (.Name x p) [] kws pos) (tE X.K X.mw W (eCall F sh.src dfl aNil fk)) := by
  obtain ⟨f, fd, ps, dvs, hm, hk, G, hdf, hst, hsp⟩ := C.ex
  obtain ⟨its, rdf, hbind⟩ := hsp sh hsh
  refine ⟨fun pins s σ H Q I ⟨env, S, o, ⟨eo, re, rs⟩, p⟩ => wpAny_Call_Name_kw (ld_glob I hg hm ?_ hdb)⟩
  subst eo
  have p1 : PostV X.K X.mw W σ Q o ((fk env S).bind fun zs S2 => F (arr [] zs dfl sh.src) S2) := p
  refine PySem.W.callWith_KW0 (h₀ := X.base) (first := []) I.ok.mod.kin hk hall (thn (hkw.run pos pins s σ o.H (fun zs H2 => ∃ es S2 o2, o2.H = H2 ∧ Le X.K o o2 ∧ RS X.K X.mw o2 S2 ∧ RDs X.K X.mw o2 es zs ∧ es.length = sh.ks.length ∧ PostV X.K X.mw W σ Q o2 (F (arr [] es dfl sh.src) S2)) I
    ⟨env, S, o, ⟨rfl, re, rs⟩, (postLen (Post.bind p1) (hkl env S)).imp fun es S2 o2 l2 rs2 p2 zs r2 => ⟨es, S2, o2, rfl, l2, rs2, r2, p2.1, p2.2⟩⟩) fun ws s2 ⟨zs, H2, I2, rz, es, S2, o2, e2, l2, rs2, rd2, n2, p2⟩ => ⟨I2.kIn, ?_⟩) hpl
  subst e2
  rw [hks]
  exact call_fin (o1 := o) (us := []) (vs := []) (ds := []) G hst hr tk hdf rdf hbind I2 .nil rz .nil l2 rd2 rs2 hn.symm n2 p2
end

/-! ### a def by its body -/
def runB (nN np : Nat) (b : FS) : List D → Sto → Out D := fun ds S => if ds.length = np then (b (ds.map some ++ List.replicate (nN - ds.length) none) S).bind fun fl S1 => match fl with
  | .rt d => .ok d S1
  | .nx _ => .ok .non S1
  | _ => .stk
  else .stk
theorem runB_len {nN np : Nat} {b : FS} {ds : List D} {S : Sto} (h : ds.length ≠ np) : runB nN np b ds S = .stk := by unfold runB; rw [if_neg h]
theorem start_re {K : PySem.W.Frag} {mw : MW} {o : Wd} {ds : List D} {vs : List V} {N : List Str} (r : RDs K mw o ds vs) : RE K mw o (ds.map some ++ List.replicate (N.length - ds.length) none) (L2.start N vs) := by
  have hl := r.length
  unfold L2.start
  refine ⟨by simp [hl], fun i d h => ?_⟩
  by_cases hi : i < ds.length
  · rw [List.getElem?_append_left (by simpa using hi), List.getElem?_map] at h
    cases e : ds[i]? with
    | none => rw [e] at h; cases h
    | some d' =>
      rw [e] at h
      cases h
      obtain ⟨v, h1, h2⟩ := r.get e
      exact ⟨v, by rw [List.getElem?_append_left (by rw [List.length_map, ← hl]; exact hi), List.getElem?_map, h1]; rfl, h2⟩
  · rw [List.getElem?_append_right (by simpa using hi), List.getElem?_replicate] at h
    split at h <;> cases h
/-- THE RULE of a def: its body's judgement for every entry -/
theorem fn_g {P : Program} {w : World} {K : PySem.W.Frag} {mg : Str → Option Value} {base : Heap} {k : Nat} {f : Addr} {name qual : Str} {params : Arguments} {body : List Stmt} {scope : Scope} {dvs : List V} {kws : List (Str × V)} {fd : FuncData} {N ps : List Str} {b : FS}
    (F : FunD K name qual params body scope dvs kws f fd) (S : FnScope N ps scope)
    (hbody : ∀ (cdv : Value) (A : Around) (outer : List PySem.Env) (s : Shared) (H : Hp) (E : XK), Rm k (A.deeper (envOfC qual scope s.heap.objs.size f cdv)) →
      PSs (cxOf (CX P w) P w K mg base N qual scope f cdv A outer s H E) body (tS K ⟨mg, w⟩ (fun c d _ H => E c d H) b)) :
    FnG P w K mg base (k + 1) f fd ps (spD K ⟨mg, w⟩ ps.length (runB N.length ps.length b)) := by
  refine F.ok S (fun vs H Q E ⟨o, ds, S0, _, r, _, e, _⟩ => r.length.symm.trans e) fun cdv A outer s H vs Q E hr ⟨o, ds, S0, eo, rd, rs, hn, p⟩ => ⟨_, hbody cdv A outer s H E hr, ?_⟩
  subst eo
  unfold runB at p
  rw [if_pos hn] at p
  refine ⟨_, S0, o, ⟨rfl, start_re rd, rs⟩, (Post.bind p).imp fun fl S1 o1 l1 rs1 p3 => ?_⟩
  match fl, p3 with
  | .nx env, p3 => exact fun σ' re' => p3.here rs1 _ .non
  | .rt d, p3 => exact fun v rv => p3.here rs1 v rv
  | .bk env, p3 => exact False.elim p3
  | .ct env, p3 => exact False.elim p3

/-! ### a def's defaults, for its calls -/
theorem no_dfl {K : PySem.W.Frag} {x qual : Str} {params : Arguments} {body : List Stmt} {scope : Scope} {kws : List (Str × V)} {f : Addr} {fd : FuncData} (F : FunD K x qual params body scope [] kws f fd) :
    ∃ kV doc pm an cdv ct, fd = PySem.W.fnOf x qual params body scope .none kV doc pm an cdv ct :=
  match F.ex with
  | ⟨_, _, dV, kV, doc, pm, an, cdv, ct, _, e, _, _, d, _⟩ => ⟨kV, doc, pm, an, cdv, ct, (d.resolve_right fun q => q.1 rfl).2 ▸ e⟩
theorem some_dfl {K : PySem.W.Frag} {x qual : Str} {params : Arguments} {body : List Stmt} {scope : Scope} {dvs : List V} {kws : List (Str × V)} {f : Addr} {fd : FuncData} (F : FunD K x qual params body scope dvs kws f fd) (hd : dvs ≠ []) :
    ∃ T o its m kV doc pm an cdv ct, fd = PySem.W.fnOf x qual params body scope (.ref T) kV doc pm an cdv ct ∧ K.lookup T = some o ∧ o.data = .seq its.toArray m ∧ Vals dvs its :=
  match F.ex with
  | ⟨_, _, dV, kV, doc, pm, an, cdv, ct, _, e, _, _, d, _⟩ => match d.resolve_left fun q => hd q.1 with
    | ⟨_, T, o, its, m, q, l, i, r⟩ => ⟨T, o, its, m, kV, doc, pm, an, cdv, ct, q ▸ e, l, i, r⟩
end PV

set_option Elab.async false
set_option linter.all false
set_option maxRecDepth 100000
set_option maxHeartbeats 3999000
namespace PV
open L2 PyProof.Rows PySem PySem.Spec
/-! ### a star in a display -/
def kStar (fr : FA) (env : PV.Env) (d : D) (S : Sto) : Out (List D) := match seqOf S d with
  | some xs => (fr env S).bind fun ds S2 => .ok (xs ++ ds) S2
  | none => .stk
def aStar (fe : FE) (fr : FA) : FA := fun env S => (fe env S).bind (kStar fr env)
/-- a display of which only the run tells how long it is -/
def kTupS (ds : List D) (S : Sto) : Out D := if ds.length ≤ sizeLine then .ok (.tup ds) S else .stk
def kLstS (ds : List D) (S : Sto) : Out D := if ds.length ≤ sizeLine then .ok (.loc S.length) (S ++ [.lst ds]) else .stk
def eTupS (fr : FA) : FE := fun env S => (fr env S).bind kTupS
def eLstS (fr : FA) : FE := fun env S => (fr env S).bind kLstS
section
variable {X : Cx} {W : WX} {a : Expr} {es : List Expr} {fa : FE} {fr : FA} {pos p : Pos}
theorem d_astar (ha : PE X a (tE X.K X.mw W fa)) (hr : PA X es (tA X.K X.mw W fr)) : PA X (.Starred a p :: es) (tA X.K X.mw W (aStar fa fr)) := by
  refine PA.imp (StX.pa_star ha hr) fun σ H Q ⟨env, S, o, ⟨eo, re, rs⟩, p⟩ => ?_
  subst eo
  refine ⟨env, S, o, ⟨rfl, re, rs⟩, (Post.bind p).imp fun d1 S1 o1 l1 rs1 p1 v1 r1 => ?_⟩
  unfold kStar at p1
  split at p1
  · rename_i xs hs
    obtain ⟨q, vs, rfl, rv, sq⟩ := r1.seq rs1 hs
    refine ⟨q, vs, rfl, sq.symm, env, S1, o1, ⟨rfl, re.up l1, rs1⟩, (Post.bind p1).imp fun ds S2 o2 l2 rs2 p2 us r2 => ?_⟩
    exact p2.here rs2 _ ((rv.up l2).append r2)
  · exact False.elim p1
theorem d_tupS {x1 : Nat} (h : PA X es (tA X.K X.mw W fr)) : PE X (.Tuple es x1 pos) (tE X.K X.mw W (eTupS fr)) := by
  refine PE.imp (pe_tup h) fun σ H Q ⟨env, S, o, ⟨eo, re, rs⟩, p⟩ => ?_
  subst eo
  refine ⟨env, S, o, ⟨rfl, re, rs⟩, (Post.bind p).imp fun ds S1 o1 l1 rs1 p1 vs r1 => ?_⟩
  unfold kTupS at p1
  split at p1
  · rename_i hz
    refine ⟨r1.length ▸ hz, fun q hq => ?_⟩
    have ⟨h1, h2, h3⟩ := rs1.newTup hq r1
    exact p1 _ h1 h2 _ h3
  · exact False.elim p1
theorem d_lstS (h : PA X es (tA X.K X.mw W fr)) : PE X (.List es pos) (tE X.K X.mw W (eLstS fr)) := by
  refine PE.imp (pe_lst h) fun σ H Q ⟨env, S, o, ⟨eo, re, rs⟩, p⟩ => ?_
  subst eo
  refine ⟨env, S, o, ⟨rfl, re, rs⟩, (Post.bind p).imp fun ds S1 o1 l1 rs1 p1 vs r1 => ?_⟩
  unfold kLstS at p1
  split at p1
  · rename_i hz
    refine ⟨r1.length ▸ hz, fun q hq => ?_⟩
    have ⟨h1, h2, h3⟩ := rs1.newLst hq r1
    exact p1 _ h1 h2 _ h3
  · exact False.elim p1
end
end PV

set_option Elab.async false
set_option linter.all false
set_option maxRecDepth 100000
set_option maxHeartbeats 3999000
namespace PV
open L2 PyProof.Rows PySem PySem.Spec

/-! ### instances of the program's classes -/
def insAt (S : Sto) : D → Option (Nat × Str × List (Str × D))
  | .loc n => (match S[n]? with
    | some (.ins c fs) => some (n, c, fs)
    | _ => none)
  | _ => none
/-- a field, of an instance of one of some classes -/
def fldD (cs : List Str) (f : Str) (d : D) (S : Sto) : Option D := match insAt S d with
  | some (_, c, fs) => if cs.contains c = true then fs.lookup f else none
  | none => none
def putFD (f : Str) (v : D) : List (Str × D) → List (Str × D)
  | [] => [(f, v)]
  | (g, x) :: r => if g = f then (g, v) :: r else (g, x) :: putFD f v r
def fldPut (cs : List Str) (f : Str) (o d : D) (S : Sto) : Option Sto := match insAt S o with
  | some (n, c, fs) => if cs.contains c = true ∧ fs.length < 1000 then some (S.set n (.ins c (putFD f d fs))) else none
  | none => none
def kFld (cs : List Str) (f : Str) (d : D) (S : Sto) : Out D := match fldD cs f d S with
  | some x => .ok x S
  | none => .stk
def eFld (cs : List Str) (f : Str) (fe : FE) : FE := fun env S => (fe env S).bind (kFld cs f)
def kgFl (cs : List Str) (f : Str) (d : D) (env : Env) (o : D) (S : Sto) : Out Env := match fldPut cs f o d S with
  | some S2 => .ok env S2
  | none => .stk
def gFl (cs : List Str) (f : Str) (fo : FE) : FG := fun d env S => (fo env S).bind (kgFl cs f d env)
def kFA3 (cs : List Str) (f : Str) (env : Env) (o z : D) (S : Sto) : Out Fl := match fldPut cs f o z S with
  | some S2 => .ok (.nx env) S2
  | none => .stk
def kFA2 (c : Str) (f : Str) (g : D → D → Sto → PR) (env : Env) (o x y : D) (S : Sto) : Out Fl := (lift (g x y S)).bind (kFA3 [c] f env o)
def clsAt (S : Sto) (d : D) : Str := match insAt S d with
  | some (_, c, _) => c
  | none => Str.empty
def kFA1 (cs : List Str) (f : Str) (g : D → D → Sto → PR) (fe : FE) (env : Env) (o : D) (S : Sto) : Out Fl := match fldD cs f o S with
  | some x => (fe env S).bind (kFA2 (clsAt S o) f g env o x)
  | none => .stk
/-- o.f op= e -/
def sFAug (cs : List Str) (f : Str) (g : D → D → Sto → PR) (fo fe : FE) : FS := fun env S => (fo env S).bind (kFA1 cs f g fe env)

/-- what a class of the table has: its fields are no attributes of the class -/
structure ClF (K : PySem.W.Frag) (mg : Str → Option Value) (c f : Str) : Prop where
  ex : ∃ C, mg c = some (.ref C) ∧ Cls K C ∧ NoAttr K C f
section
variable {K : PySem.W.Frag} {mw : MW} {o : Wd} {S : Sto}
theorem insAt_ok {d : D} {n : Nat} {c : Str} {fs : List (Str × D)} (h : insAt S d = some (n, c, fs)) : d = .loc n ∧ S[n]? = some (.ins c fs) := by
  unfold insAt at h
  split at h
  · split at h
    · rename_i e; cases h; exact ⟨rfl, e⟩
    · cases h
  · cases h
theorem RD.ins {d : D} {v : V} {n : Nat} {c : Str} {fs : List (Str × D)} (rs : RS K mw o S) (r : RD K mw o d v) (h : insAt S d = some (n, c, fs)) :
    ∃ a C dx vs, d = .loc n ∧ v = .ref a ∧ o.rho[n]? = some a ∧ mw.mg c = some (.ref C) ∧ o.H a = some (.ins C dx vs) ∧ RKs K mw o fs vs := by
  obtain ⟨rfl, e⟩ := insAt_ok h
  cases r with
  | @loc n a hn =>
  obtain ⟨b, eb, C, dx, vs, q1, q2, q3⟩ := rs.obj n _ e
  rw [hn] at eb
  cases eb
  exact ⟨a, C, dx, vs, rfl, rfl, hn, q1, q2, q3⟩
theorem RKs.look {f : Str} : ∀ {fs : List (Str × D)} {vs : List (Str × V)}, RKs K mw o fs vs → (fs.lookup f = none ∧ vs.lookup f = none) ∨ ∃ d v, fs.lookup f = some d ∧ vs.lookup f = some v ∧ RD K mw o d v
  | _, _, .nil => .inl ⟨rfl, rfl⟩
  | (g, x) :: r, (g2, y) :: s, .cons h t => by
    obtain ⟨e, q⟩ := h
    have e : g = g2 := e
    subst e
    by_cases hg : f = g
    · subst hg
      refine .inr ⟨x, y, ?_, ?_, q⟩ <;> simp [List.lookup]
    · have hb : (f == g) = false := beq_eq_false_iff_ne.mpr hg
      simp only [List.lookup, hb]
      exact RKs.look t
theorem RKs.put {f : Str} {d : D} {v : V} (rv : RD K mw o d v) : ∀ {fs : List (Str × D)} {vs : List (Str × V)}, RKs K mw o fs vs → RKs K mw o (putFD f d fs) (putF f v vs)
  | _, _, .nil => .cons ⟨rfl, rv⟩ .nil
  | (g, x) :: r, (g2, y) :: s, .cons h t => by
    obtain ⟨e, q⟩ := h
    have e : g = g2 := e
    subst e
    unfold putFD putF
    split
    · exact .cons ⟨rfl, rv⟩ t
    · exact .cons ⟨rfl, q⟩ (RKs.put rv t)
theorem RKs.len : ∀ {fs : List (Str × D)} {vs : List (Str × V)}, RKs K mw o fs vs → fs.length = vs.length
  | _, _, .nil => rfl
  | _, _, .cons _ t => by rw [List.length_cons, List.length_cons, RKs.len t]
end
section
variable {X : Cx} {W : WX} {a b c : Expr} {fa fb : FE} {pos tpos : Pos} {cs : List Str} {f : Str}
theorem d_fld (hc : ∀ c ∈ cs, ClF X.K X.mg c f) (ha : PE X a (tE X.K X.mw W fa)) (hb : attributeBase a f X.env (eval a X.env) = eval a X.env) : PE X (.Attribute a f pos) (tE X.K X.mw W (eFld cs f fa)) := by
  refine PE.imp (pe_fld ha hb) fun σ H Q h => ?_
  obtain ⟨env, S, o, ⟨rfl, re, rs⟩, p⟩ := h
  refine ⟨env, S, o, ⟨rfl, re, rs⟩, (Post.bind p).imp fun d S1 o1 l1 rs1 p1 v r => ?_⟩
  unfold kFld at p1
  split at p1
  · rename_i x e
    unfold fldD at e
    split at e
    · rename_i n c fs hi
      split at e
      · rename_i hm
        obtain ⟨q, C, dx, vs, rfl, rfl, hn, hmg, hH, rk⟩ := r.ins rs1 hi
        obtain ⟨C', m', k1, k2⟩ := (hc c (List.contains_iff_mem.mp hm)).ex
        have hmg : X.mg c = some (.ref C) := hmg
        rw [hmg] at m'
        cases m'
        rcases RKs.look (f := f) rk with ⟨z, _⟩ | ⟨d', v', z1, z2, z3⟩
        · rw [z] at e; cases e
        · rw [z1] at e
          cases e
          exact ⟨q, C, dx, vs, v', rfl, hH, k1, k2, z2, p1.here rs1 _ z3⟩
      · cases e
    · cases e
  · exact False.elim p1
/-- o.f as a target -/
def gAtt (K : PySem.W.Frag) (to : TE) (f : Str) : TG := fun v σ H Q => to σ H fun x H1 => ∃ a C dx fs, x = .ref a ∧ H1 a = some (.ins C dx fs) ∧ Cls K C ∧ NoAttr K C f ∧ fs.length < 1000 ∧ Q σ (upd H1 a (.ins C dx (putF f v fs)))
theorem pg_att {to : TE} (ho : PE X a to) : PG X (.Attribute a f pos) (gAtt X.K to f) := by
  refine ⟨fun pins s σ H v u Q I r h => ?_⟩
  refine PySem.W.kas_attr (thn (ho.run pins s σ H _ I h) fun ov s1 ⟨x, H1, I1, r1, q, C, dx, fs, ex, eH, c, n, l, z⟩ => ?_)
  subst ex
  obtain rfl : ov = Value.ref q := r1
  exact setattr_ok I1 eH c n l r fun s2 I2 => ⟨σ, _, I2, z⟩
theorem put_world {K : PySem.W.Frag} {mw : MW} {o : Wd} {S S' : Sto} {d x : D} {v y : V} (rs : RS K mw o S) (r : RD K mw o d v) (ry : RD K mw o x y) (hc : ∀ c ∈ cs, ClF K mw.mg c f) (h : fldPut cs f d x S = some S') :
    ∃ q C dx vs, v = .ref q ∧ (∃ c ∈ cs, mw.mg c = some (.ref C)) ∧ o.H q = some (.ins C dx vs) ∧ Cls K C ∧ NoAttr K C f ∧ vs.length < 1000 ∧ Le K o ⟨o.rho, upd o.H q (.ins C dx (putF f y vs))⟩ ∧ RS K mw ⟨o.rho, upd o.H q (.ins C dx (putF f y vs))⟩ S' := by
  unfold fldPut at h
  split at h
  · rename_i n c fs hi
    split at h
    · rename_i hm
      cases h
      obtain ⟨q, C, dx, vs, rfl, rfl, hn, hmg, hH, rk⟩ := r.ins rs hi
      obtain ⟨C', m', k1, k2⟩ := (hc c (List.contains_iff_mem.mp hm.1)).ex
      rw [hmg] at m'
      cases m'
      have l : Le K o ⟨o.rho, upd o.H q (.ins C dx (putF f y vs))⟩ := Le.write hn hH (fun _ z => nomatch z) (fun _ _ z => nomatch z)
      exact ⟨q, C, dx, vs, rfl, ⟨c, List.contains_iff_mem.mp hm.1, hmg⟩, hH, k1, k2, by rw [← rk.len]; exact hm.2, l, rs.write hn hH (fun _ z => nomatch z) (fun _ _ z => nomatch z) ⟨C, dx, _, hmg, upd_same, RKs.upV l.toLeV (RKs.put ry rk)⟩⟩
    · cases h
  · cases h
theorem d_gfl (hc : ∀ c ∈ cs, ClF X.K X.mg c f) (ha : PE X a (tE X.K X.mw W fa)) : PG X (.Attribute a f pos) (tG X.K X.mw W [] (gFl cs f fa)) := by
  refine PG.imp (pg_att ha) fun v σ H Q h => ?_
  obtain ⟨d, env, S, o, ⟨rfl, re, rs⟩, r, p⟩ := h
  refine ⟨env, S, o, ⟨rfl, re, rs⟩, (Post.bind p).imp fun d1 S1 o1 l1 rs1 p1 v1 r1 => ?_⟩
  unfold kgFl at p1
  split at p1
  · rename_i S2 e
    obtain ⟨q, C, dx, vs, rfl, _, z1, z2, z3, z4, z5, z6⟩ := put_world rs1 r1 (r.up l1) hc e
    exact ⟨q, C, dx, vs, rfl, z1, z2, z3, z4, p1 _ z5 z6 σ ((re.up l1).up z5) SameBut.refl⟩
  · exact False.elim p1
theorem tame_fl {i : Nat} : Tame (gFl cs f (eVar i)) := fun d env S x S' e => by
  unfold gFl eVar at e
  split at e
  · have e : kgFl cs f d env _ S = _ := e
    unfold kgFl at e
    split at e <;> cases e
  · cases e
theorem d_faug {g : D → D → Sto → PR} {op : Operator} (hW : Flat W) (hc : ∀ c ∈ cs, ClF X.K X.mg c f) (ha : PE X a (tE X.K X.mw W fa)) (hb : PE X b (tE X.K X.mw W fb)) (ho : OpD X (inplaceOp op) g) :
    PS X (.AugAssign (.Attribute a f tpos) op b pos) (tS X.K X.mw W (sFAug cs f g fa fb)) := by
  refine PS.imp (ps_fldaug (rd := rDD X.K X.mw g) ha hb fun pins s σ H x y u v Q I r1 r2 h => ho pins s σ H x y u v Q I r1 r2 h) fun D' σ H h => ?_
  obtain ⟨env, S, o, ⟨rfl, re, rs⟩, p⟩ := h
  refine ⟨env, S, o, ⟨rfl, re, rs⟩, (Post.bind p).imp fun d S1 o1 l1 rs1 p1 v r => ?_⟩
  unfold kFA1 at p1
  split at p1
  · rename_i x e
    unfold fldD at e
    split at e
    · rename_i n c fs hi
      split at e
      · rename_i hm
        have r0 := r
        obtain ⟨q, C, dx, vs, rfl, rfl, hn, hmg, hH, rk⟩ := r.ins rs1 hi
        obtain ⟨C', m', k1, k2⟩ := (hc c (List.contains_iff_mem.mp hm)).ex
        have hmg : X.mg c = some (.ref C) := hmg
        rw [hmg] at m'
        cases m'
        rcases RKs.look (f := f) rk with ⟨z, _⟩ | ⟨d', v', z1, z2, z3⟩
        · rw [z] at e; cases e
        · rw [z1] at e
          cases e
          refine ⟨q, C, dx, vs, v', rfl, hH, k1, k2, z2, env, S1, o1, ⟨rfl, re.up l1, rs1⟩, (Post.bind p1).imp fun y S2 o2 l2 rs2 p2 w r2 => ?_⟩
          have hcl : clsAt S1 (.loc n) = c := by unfold clsAt; rw [hi]
          rw [hcl] at p2
          have p2' : Post X.K X.mw (wx X.K X.mw W σ) (fun z S3 o3 => Post X.K X.mw (wx X.K X.mw W σ) (FlP X.K X.mw D') o3 (kFA3 [c] f env (.loc n) z S3)) o2 (lift (g x y S2)) := Post.bind p2
          obtain ⟨z, S3, eg, q3⟩ := lift_post p2'
          refine ⟨o2, x, y, S2, z, S3, rfl, z3.up l2, r2, rs2, eg, fun o3 w3 l3 rs3 r3 => ?_⟩
          have p3 := q3 o3 l3 rs3
          unfold kFA3 at p3
          split at p3
          · rename_i S4 e4
            have hc1 : ∀ c' ∈ [c], ClF X.K X.mg c' f := fun c' h' => by rw [List.mem_singleton.mp h']; exact hc c (List.contains_iff_mem.mp hm)
            obtain ⟨q', C2, dx2, vs2, eq, yc, y1, y2, y3, y4, y5, y6⟩ := put_world rs3 ((r0.up l2).up l3) r3 hc1 e4
            cases eq
            obtain ⟨c2, hc2, hmg2⟩ := yc
            rw [List.mem_singleton.mp hc2] at hmg2
            have hmg2 : X.mg c = some (.ref C2) := hmg2
            rw [hmg] at hmg2
            cases hmg2
            exact ⟨dx2, vs2, y1, y4, p3 _ y5 y6 σ ((((re.up l1).up l2).up l3).up y5)⟩
          · exact False.elim p3
      · cases e
    · cases e
  · exact False.elim p1
end
end PV

set_option Elab.async false
set_option linter.all false
set_option maxRecDepth 100000
set_option maxHeartbeats 3999000
namespace PV
open L2 PyProof.Rows PySem PySem.Spec

/-! ### methods -/
structure MCal (P : Program) (w : World) (K : PySem.W.Frag) (mg : Str → Option Value) (base : Heap) (k : Nat) (c m : Str) (dfl : List D) (shs : List Shape) (F : List D → Sto → Out D) : Prop where
  ex : ∃ (C f : Addr) (fd : FuncData) (ps : List Str) (dvs : List V), mg c = some (.ref C) ∧ Cls K C ∧ Meth K C m f ∧ FnG P w K mg base k f fd ps (spD K ⟨mg, w⟩ ps.length F) ∧ (∀ o : Wd, RDs K ⟨mg, w⟩ o dfl dvs) ∧
    (∀ ds S, ds.length ≠ ps.length → F ds S = .stk) ∧
    ∀ sh ∈ shs, ∃ its, Vals dvs its ∧ ∀ (s : Shared) (us ws : List Value), K.In s.heap → us.length = sh.n → ws.length = sh.ks.length → BindsTo s fd ⟨us, sh.ks.zip ws⟩ (ps.zip (arr us ws its sh.src))
/-- a class that has the method: the name of its def, how the arguments come to the parameters, defaults -/
structure Cand where
  c : Str
  g : Str
  src : List Src
  dfl : List D
def candOf (l : List Cand) (c : Str) : Option Cand := l.find? fun x => x.c == c
def kMth3 (C : Str → List D → Sto → Out D) (x : Cand) (d : D) (ds zs : List D) (S : Sto) : Out D := C x.g (arr (d :: ds) zs x.dfl x.src) S
def kMth2 (C : Str → List D → Sto → Out D) (x : Cand) (fk : FA) (env : Env) (d : D) (ds : List D) (S : Sto) : Out D := (fk env S).bind (kMth3 C x d ds)
def kMth (C : Str → List D → Sto → Out D) (m : Str) (l : List Cand) (fa fk : FA) (env : Env) (d : D) (S : Sto) : Out D := match insAt S d with
  | some (_, c, fs) => (match candOf l c with
    | some x => if (fs.lookup m).isNone = true then (fa env S).bind (kMth2 C x fk env d) else .stk
    | none => .stk)
  | none => .stk
def eMth (C : Str → List D → Sto → Out D) (m : Str) (l : List Cand) (fo : FE) (fa fk : FA) : FE := fun env S => (fo env S).bind (kMth C m l fa fk env)
theorem candOf_ok {l : List Cand} {c : Str} {x : Cand} (h : candOf l c = some x) : x ∈ l ∧ x.c = c := by
  refine ⟨List.mem_of_find?_eq_some h, ?_⟩
  have := List.find?_some h
  exact eq_of_beq this
section
variable {X : Cx} {W : WX} {a : Expr} {es : List Expr} {kws : List Keyword} {fa : FE} {fr fk : FA} {pos apos : Pos} {m : Str}
theorem meth_fin {k : Nat} {f q : Addr} {fd : FuncData} {ps : List Str} {dvs : List V} {its : List Value} {dfl : List D} {F : List D → Sto → Out D} {sh : Shape} {pins : List (Addr × Obj)} {σ : L2.St} {Q : VK} {us ws : List Value} {vs zs : List V} {s2 : Shared} {o1 o2 : Wd} {d : D} {ds es : List D} {S2 : Sto}
    (G : FnG X.prog X.w X.K X.mg X.base k f fd ps (spD X.K X.mw ps.length F)) (hst : ∀ ds S, ds.length ≠ ps.length → F ds S = .stk) (hr : Rm k X.A) (tk : Takes X W) (hdf : ∀ o : Wd, RDs X.K X.mw o dfl dvs) (rdf : Vals dvs its)
    (hbind : ∀ (s : Shared) (us ws : List Value), X.K.In s.heap → us.length = sh.n → ws.length = sh.ks.length → BindsTo s fd ⟨us, sh.ks.zip ws⟩ (ps.zip (arr us ws its sh.src)))
    (I2 : Inv X pins σ o2.H s2) (r : Vals vs us) (rz : Vals zs ws) (rq : RD X.K X.mw o1 d (.ref q)) (rd : RDs X.K X.mw o1 ds vs) (l2 : Le X.K o1 o2) (rd2 : RDs X.K X.mw o2 es zs) (rs2 : RS X.K X.mw o2 S2) (n1 : ds.length + 1 = sh.n) (n2 : es.length = sh.ks.length)
    (p : PostV X.K X.mw W σ Q o2 (F (arr (d :: ds) es dfl sh.src) S2)) : wpAny (model X.prog X.w) X.A (call (.ref f) (.ref q :: us) (sh.ks.zip ws)) (EP X pins σ Q) X.xe s2 :=
  call_of (run_g (us := arr (.ref q :: us) ws its sh.src) (vs := arr (.ref q :: vs) zs dvs sh.src) G hst hr tk (hbind s2 (.ref q :: us) ws I2.kIn (by rw [List.length_cons, ← r.length, ← rd.length, n1]) (by rw [← rz.length, ← rd2.length, n2]))
    (arr_vals (.cons (show RelV (.ref q) (.ref q) from rfl) r) rz rdf sh.src) I2 (arr_rds (.cons (rq.up l2) (rd.up l2)) rd2 (hdf o2) sh.src) rs2 p)
/-- o.m(e, .., k = v, ..) -/
theorem d_meth {k : Nat} {C : Str → List D → Sto → Out D} {l : List Cand} {n : Nat} {ks : List Str} (hl : ∀ x ∈ l, ∃ sh, sh.n = n + 1 ∧ sh.ks = ks ∧ sh.src = x.src ∧ MCal X.prog X.w X.K X.mg X.base k x.c m x.dfl [sh] (C x.g)) (hr : Rm k X.A) (tk : Takes X W)
    (ho : PE X a (tE X.K X.mw W fa)) (ha : PA X es (tA X.K X.mw W fr)) (hla : LenA fr n) (hnil : es = [] → fr = aNil) (hkw : PK X kws (tA X.K X.mw W fk)) (hkl : LenA fk ks.length)
    (hks : (backToKw pos (keywordEach kws X.env)).filterMap (·.1) = ks) (hall : (backToKw pos (keywordEach kws X.env)).all (·.1.isSome) = true) (hbase : attributeBase a m X.env (eval a X.env) = eval a X.env)
    (hform : methodCallForm (es.length + kws.length) (backTo pos (starEach es X.env)) (backToKw pos (keywordEach kws X.env)) = true) (hline : (apos.endLine == pos.line) = true)
    (hst : ∀ e r, es = e :: r → starEach (e :: r) X.env = (false, eval e X.env) :: starEach r X.env)
    (hpl : ((backTo pos (starEach es X.env)).any (·.1) || (backToKw pos (keywordEach kws X.env)).any (·.1.isNone)) = false) :
    PE X (.Call (.Attribute a m apos) es kws pos) (tE X.K X.mw W (eMth C m l fa fr fk)) := by
  refine ⟨fun pins s σ H Q I ⟨env, S, o, ⟨eo, re, rs⟩, p⟩ => ?_⟩
  subst eo
  rw [arm_eval_Call, hbase]
  refine wpAny_bind (thn (ho.run pins s σ o.H (fun v H1 => ∃ q d S1 o1 Cl dx vs x fs, v = .ref q ∧ o1.H = H1 ∧ Le X.K o o1 ∧ RS X.K X.mw o1 S1 ∧ RD X.K X.mw o1 d (.ref q) ∧ X.mg x.c = some (.ref Cl) ∧ H1 q = some (.ins Cl dx vs) ∧ RKs X.K X.mw o1 fs vs ∧ fs.lookup m = none ∧ x ∈ l ∧ PostV X.K X.mw W σ Q o1 ((fr env S1).bind (kMth2 C x fk env d))) I
    ⟨env, S, o, ⟨rfl, re, rs⟩, (Post.bind p).imp fun d S1 o1 l1 rs1 p1 v r => ?_⟩) fun ov s1 ⟨v, H1, I1, rv, q, d, S1, o1, Cl, dx, vs, x, fs, ev, e1, l1, rs1, rq, hmg, hH, rk, hno, hx, p1⟩ => ?_)
  · unfold kMth at p1
    split at p1
    · rename_i n' c fs hi
      split at p1
      · rename_i x hx
        split at p1
        · rename_i hn
          obtain ⟨h1, h2⟩ := candOf_ok hx
          have r0 := r
          obtain ⟨q, Cl, dx, vs, rfl, rfl, hn', hmg, hH, rk⟩ := r.ins rs1 hi
          exact ⟨q, _, S1, o1, Cl, dx, vs, x, fs, rfl, rfl, l1, rs1, r0, by rw [h2]; exact hmg, hH, rk, Option.isNone_iff_eq_none.mp hn, h1, p1⟩
        · exact False.elim p1
      · exact False.elim p1
    · exact False.elim p1
  · subst ev
    subst e1
    obtain rfl : ov = Value.ref q := rv
    obtain ⟨sh, hsn, hsk, hss, MC⟩ := hl x hx
    obtain ⟨C', f, fd, ps, dvs, m1, m2, m3, G, hdf, hstk, hsp⟩ := MC.ex
    rw [hmg] at m1
    cases m1
    obtain ⟨its, rdf, hbind⟩ := hsp sh (List.mem_singleton.mpr rfl)
    have hvl : vs.lookup m = none := by
      rcases RKs.look (f := m) rk with ⟨_, z⟩ | ⟨d', v', z, _⟩
      · exact z
      · rw [hno] at z; cases z
    refine wpAny_bind (wpAny_standAt ?_)
    have hpos : methodCallPos true a X.env apos pos = pure pos := by unfold methodCallPos; simp [hline]
    unfold methodCall
    rw [hform]
    refine wpAny_bind (wpAny_holding ?_)
    show wpAny _ _ (getMethod (.ref q) m _) _ _ _
    refine getmeth_ok I1 hH m2 m3 hvl ?_
    refine wpAny_bind (wpAny_of_eq hpos ?_)
    have fin : ∀ (us : List Value) (vs : List V) (ds : List D) (s2 : Shared) (S2 : Sto) (o2 : Wd), Inv X pins σ o2.H s2 → Vals vs us → RDs X.K X.mw o2 ds vs → ds.length = n → RS X.K X.mw o2 S2 → Le X.K o1 o2 → PostV X.K X.mw W σ Q o2 (kMth2 C x fk env d ds S2) →
        wpAny (model X.prog X.w) X.A (evalAll ((backToKw pos (keywordEach kws X.env)).map (·.2))) (fun ks s₂ => X.K.In s₂.heap ∧ wpAny (model X.prog X.w) X.A (call (.ref f) (.ref q :: us) (((backToKw pos (keywordEach kws X.env)).filterMap (·.1)).zip ks)) (EP X pins σ Q) X.xe s₂) X.xe s2 := fun us vs ds s2 S2 o2 I2 r rd hn rs2 l2 p2 => by
      refine thn (hkw.run pos pins s2 σ o2.H (fun zs H3 => ∃ es S3 o3, o3.H = H3 ∧ Le X.K o2 o3 ∧ RS X.K X.mw o3 S3 ∧ RDs X.K X.mw o3 es zs ∧ es.length = ks.length ∧ PostV X.K X.mw W σ Q o3 (kMth3 C x d ds es S3)) I2
        ⟨env, S2, o2, ⟨rfl, (re.up l1).up l2, rs2⟩, (postLen (Post.bind p2) (hkl env S2)).imp fun es S3 o3 l3 rs3 p3 zs r3 => ⟨es, S3, o3, rfl, l3, rs3, r3, p3.1, p3.2⟩⟩) fun ws s3 ⟨zs, H3, I3, rz, es, S3, o3, e3, l3, rs3, rd3, n3, p3⟩ => ⟨I3.kIn, ?_⟩
      subst e3
      rw [hks, ← hsk]
      unfold kMth3 at p3
      rw [← hss] at p3
      exact meth_fin G hstk hr tk hdf rdf hbind I3 r rz (rq.up l2) rd l3 rd3 rs3 (by rw [hn, hsn]) (by rw [n3, hsk]) p3
    cases es with
    | nil =>
      refine PySem.W.callWith_KW0 (h₀ := X.base) (first := [.ref q]) I.ok.mod.kin m3.kp hall ?_ hpl
      have hf := hnil rfl
      subst hf
      have h0 : n = 0 := (hla env S1 [] S1 rfl).symm
      exact fin [] [] [] s1 S1 o1 I1 .nil .nil h0.symm rs1 .refl p1
    | cons e r =>
      refine PySem.W.callWith_KW (h₀ := X.base) (first := [.ref q]) I.ok.mod.kin m3.kp hall (thn (ha.run pos pins s1 σ o1.H (fun vs H2 => ∃ ds S2 o2, o2.H = H2 ∧ Le X.K o1 o2 ∧ RS X.K X.mw o2 S2 ∧ RDs X.K X.mw o2 ds vs ∧ ds.length = n ∧ PostV X.K X.mw W σ Q o2 (kMth2 C x fk env d ds S2)) I1
        ⟨env, S1, o1, ⟨rfl, re.up l1, rs1⟩, (postLen (Post.bind p1) (hla env S1)).imp fun ds S2 o2 l2 rs2 p2 vs r2 => ⟨ds, S2, o2, rfl, l2, rs2, r2, p2.1, p2.2⟩⟩) fun us s2 ⟨vs, H2, I2, r2, ds, S2, o2, e2, l2, rs2, rd2, n2, p2⟩ => ?_) hpl (hst e r rfl)
      subst e2
      exact fin us vs ds s2 S2 o2 I2 r2 rd2 n2 rs2 l2 p2
end
end PV
namespace PV
open L2 PyProof.Rows PySem PySem.Spec
/-! ### instances made -/
def kMk (n : Nat) (d : D) (S : Sto) : Out D := match d with
  | .non => .ok (.loc n) S
  | _ => .stk
def mkRun (F0 : List D → Sto → Out D) (c : Str) : List D → Sto → Out D := fun ds S => (F0 (.loc S.length :: ds) (S ++ [.ins c []])).bind (kMk S.length)
structure KCal (P : Program) (w : World) (K : PySem.W.Frag) (mg : Str → Option Value) (base : Heap) (k : Nat) (c : Str) (F : List D → Sto → Out D) : Prop where
  ex : ∃ (C : Addr), mg c = some (.ref C) ∧ PySem.W.keepIn K (.ref C) = true ∧ ((∀ ds S, F ds S = .stk) ∨ ∃ (k' : Nat) (f : Addr) (fd : FuncData) (ps : List Str) (F0 : List D → Sto → Out D), k = k' + 1 ∧ Mk K C f ∧ FnG P w K mg base k' f fd ps (spD K ⟨mg, w⟩ ps.length F0) ∧
    (∀ ds S, ds.length ≠ ps.length → F0 ds S = .stk) ∧ F = mkRun F0 c ∧ ∀ (s : Shared) (us : List Value), K.In s.heap → us.length = ps.length → BindsTo s fd ⟨us, []⟩ (ps.zip us))
def eMk (F : List D → Sto → Out D) (fa : FA) : FE := fun env S => (fa env S).bind F
section
variable {X : Cx} {W : WX} {e : Expr} {es : List Expr} {fr : FA} {p pos : Pos}
/-- the world with a new instance -/
theorem RS.newIns {o : Wd} {S : Sto} {q dx C : Addr} {c : Str} (rs : RS X.K X.mw o S) (hC : X.mg c = some (.ref C)) (h1 : o.H q = none) (h2 : o.H dx = none) (hne : dx ≠ q) :
    Le X.K o ⟨o.rho ++ [q], upd (upd o.H dx (.own q)) q (.ins C dx [])⟩ ∧ RS X.K X.mw ⟨o.rho ++ [q], upd (upd o.H dx (.own q)) q (.ins C dx [])⟩ (S ++ [.ins c []]) ∧ RD X.K X.mw ⟨o.rho ++ [q], upd (upd o.H dx (.own q)) q (.ins C dx [])⟩ (.loc S.length) (.ref q) := by
  have l1 : Le X.K o ⟨o.rho, upd o.H dx (.own q)⟩ := Le.new h2
  have rs1 : RS X.K X.mw ⟨o.rho, upd o.H dx (.own q)⟩ S := rs.new h2
  have hq : (⟨o.rho, upd o.H dx (.own q)⟩ : Wd).H q = none := by show upd o.H dx (.own q) q = none; rw [upd_ne (Ne.symm hne)]; exact h1
  have l2 : Le X.K ⟨o.rho, upd o.H dx (.own q)⟩ ⟨o.rho ++ [q], upd (upd o.H dx (.own q)) q (.ins C dx [])⟩ := Le.alloc hq
  exact ⟨l1.trans l2, rs1.alloc hq ⟨C, dx, [], hC, upd_same, .nil⟩, alloc_loc rs1⟩
theorem run_mk {k : Nat} {C f : Addr} {c : Str} {fd : FuncData} {ps : List Str} {F0 : List D → Sto → Out D} {pins : List (Addr × Obj)} {σ : L2.St} {s : Shared} {Q : VK} {us : List Value} {vs : List V} {o : Wd} {ds : List D} {S : Sto}
    (M : Mk X.K C f) (hC : X.mg c = some (.ref C)) (G : FnG X.prog X.w X.K X.mg X.base k f fd ps (spD X.K X.mw ps.length F0)) (hst : ∀ ds S, ds.length ≠ ps.length → F0 ds S = .stk) (hr : Rm (k + 1) X.A) (tk : Takes X W)
    (hb : ∀ (s : Shared) (us : List Value), X.K.In s.heap → us.length = ps.length → BindsTo s fd ⟨us, []⟩ (ps.zip us)) (I : Inv X pins σ o.H s) (r : Vals vs us) (rd : RDs X.K X.mw o ds vs) (rs : RS X.K X.mw o S)
    (p : PostV X.K X.mw W σ Q o (mkRun F0 c ds S)) : wpAny (model X.prog X.w) X.A (call (.ref C) us) (EP X pins σ Q) X.xe s := by
  have hn1 : o.H (s.heap.objs.size + 1) = none := I.hok.fresh (Nat.le_succ _)
  have hn2 : o.H s.heap.objs.size = none := I.hok.fresh (Nat.le_refl _)
  have hne : s.heap.objs.size ≠ s.heap.objs.size + 1 := Nat.ne_of_lt (Nat.lt_succ_self _)
  obtain ⟨l1, rs1, rq⟩ := rs.newIns hC hn1 hn2 hne
  have I2 := Inv.made (C := C) I
  have hl : (D.loc S.length :: ds).length = ps.length := by
    by_cases e : (D.loc S.length :: ds).length = ps.length
    · exact e
    · unfold mkRun at p
      rw [hst _ _ e] at p
      exact False.elim p
  have hlu : (Value.ref (s.heap.objs.size + 1) :: us).length = ps.length := by rw [← hl, List.length_cons, List.length_cons, ← r.length, ← rd.length]
  have r2 : Vals (V.ref (s.heap.objs.size + 1) :: vs) (Value.ref (s.heap.objs.size + 1) :: us) := .cons (show RelV (.ref _) (.ref _) from rfl) r
  have hsp : spD X.K X.mw ps.length F0 (V.ref (s.heap.objs.size + 1) :: vs) (upd (upd o.H s.heap.objs.size (.own (s.heap.objs.size + 1))) (s.heap.objs.size + 1) (.ins C s.heap.objs.size [])) (fun v H2 => v = .non ∧ Q (.ref (s.heap.objs.size + 1)) H2) (fun cl od H' => W cl od σ H') := by
    refine ⟨_, .loc S.length :: ds, S ++ [.ins c []], rfl, .cons rq (rd.up l1), rs1, hl, ?_⟩
    have pb := Post.bind p
    revert pb
    cases F0 (.loc S.length :: ds) (S ++ [.ins c []]) with
    | ok d S1 =>
      intro pb o' l' rs' v rv
      have z := pb o' (l1.trans l') rs'
      cases d with
      | non =>
        cases rv
        exact ⟨rfl, Post.here z rs' _ (rq.up l')⟩
      | _ => exact False.elim z
    | exc x S1 => exact fun pb o' l' rs' => pb o' (l1.trans l') rs'
    | stk => exact fun pb => pb
  refine wpAny_call (make_map (f := f) I.kIn M.makes M.init (beq_iff_eq.mp M.fn) (codeAny_mono (G.run _ X.stack _ _ ⟨_, []⟩ _ _ _ _ (hr.make C us []) (I2.env0.make C us []) (hb _ _ I2.kIn hlu) r2 hsp) fun r s' hq => ?_))
  cases r with
  | error e => exact tk e s' (XE.of_call I2 (fun _ _ _ h => h) hq)
  | ok fl =>
    cases fl with
    | ret u =>
      obtain ⟨v, H', I3, rv, ev, q3⟩ := I2.after hq
      subst ev
      exact ⟨rv, V.ref (s.heap.objs.size + 1), H', I3, rfl, q3⟩
    | next => exact False.elim hq
    | brk => exact False.elim hq
    | cont => exact False.elim hq
theorem d_make {k : Nat} {x : Str} {F : List D → Sto → Out D} (C : KCal X.prog X.w X.K X.mg X.base k x F) (hr : Rm k X.A) (tk : Takes X W) (hg : Gl X x) (ha : PA X es (tA X.K X.mw W fr)) (hnil : es = [] → fr = aNil) (hdb : (x == ("__debug__" : Str)) = false)
    (hst : ∀ e r, es = e :: r → starEach (e :: r) X.env = (false, eval e X.env) :: starEach r X.env) (hpl : ∀ e r, es = e :: r → (backTo pos (starEach r X.env)).any (·.1) = false) :
    PE X (.Call (.Name x p) es [] pos) (tE X.K X.mw W (eMk F fr)) := by
  obtain ⟨Cl, hm, hk, hF⟩ := C.ex
  refine ⟨fun pins s σ H Q I ⟨env, S, o, ⟨eo, re, rs⟩, p⟩ => wpAny_Call_Name_kw (ld_glob I hg hm ?_ hdb)⟩
  subst eo
  have fin : ∀ (us : List Value) (vs : List V) (ds : List D) (s1 : Shared) (S1 : Sto) (o1 : Wd), Inv X pins σ o1.H s1 → Vals vs us → RDs X.K X.mw o1 ds vs → RS X.K X.mw o1 S1 → PostV X.K X.mw W σ Q o1 (F ds S1) → wpAny (model X.prog X.w) X.A (call (.ref Cl) us) (EP X pins σ Q) X.xe s1 := fun us vs ds s1 S1 o1 I1 r rd rs1 p1 => by
    rcases hF with h | ⟨k', f, fd, ps, F0, rfl, M, G, hstk, rfl, hb⟩
    · rw [h] at p1
      exact False.elim p1
    · exact run_mk M hm G hstk hr tk hb I1 r rd rs1 p1
  cases es with
  | nil =>
    have hf := hnil rfl
    subst hf
    exact PySem.W.callWith_K0 I.kIn hk (fin [] [] [] s S o I .nil .nil rs p)
  | cons e r =>
    refine PySem.W.callWith_K (h₀ := X.base) I.ok.mod.kin hk (thn (ha.run pos pins s σ o.H (fun vs H1 => ∃ ds S1 o1, o1.H = H1 ∧ RS X.K X.mw o1 S1 ∧ RDs X.K X.mw o1 ds vs ∧ PostV X.K X.mw W σ Q o1 (F ds S1)) I
      ⟨env, S, o, ⟨rfl, re, rs⟩, (Post.bind p).imp fun ds S1 o1 l1 rs1 p1 vs r1 => ⟨ds, S1, o1, rfl, rs1, r1, p1⟩⟩) fun us s1 ⟨vs, H1, I1, r2, ds, S1, o1, e1, rs1, rd1, p1⟩ => ⟨I1.kIn, ?_⟩) (hst e r rfl) (hpl e r rfl)
    subst e1
    exact fin us vs ds s1 S1 o1 I1 r2 rd1 rs1 p1
end
end PV

set_option Elab.async false
set_option linter.all false
set_option maxRecDepth 100000
set_option maxHeartbeats 3999000
namespace PV
open L2 PyProof.Rows PySem PySem.Spec

/-! ### o[i] op= e, o a list -/
def getLD (o i : D) (S : Sto) : Option D := match o, i with
  | .loc n, .int k => (match lstAt S n with
    | some xs => atI xs k
    | none => none)
  | _, _ => none
def kSA4 (env : Env) (o i z : D) (S : Sto) : Out Fl := match setD o i z S with
  | some S2 => .ok (.nx env) S2
  | none => .stk
def kSA3 (g : D → D → Sto → PR) (env : Env) (o i x y : D) (S : Sto) : Out Fl := (lift (g x y S)).bind (kSA4 env o i)
def kSA2 (g : D → D → Sto → PR) (fe : FE) (env : Env) (o i : D) (S : Sto) : Out Fl := match getLD o i S with
  | some x => (fe env S).bind (kSA3 g env o i x)
  | none => .stk
def kSA1 (g : D → D → Sto → PR) (fi fe : FE) (env : Env) (o : D) (S : Sto) : Out Fl := (fi env S).bind (kSA2 g fe env o)
def sSAug (g : D → D → Sto → PR) (fo fi fe : FE) : FS := fun env S => (fo env S).bind (kSA1 g fi fe env)
section
variable {X : Cx} {W : WX} {a b c : Expr} {fa fb fc : FE} {pos tpos : Pos}
theorem get_list : PGet X (rIxL X.K) := by
  intro pins s σ H x y v u Q I rx ry h
  obtain ⟨p, xs, i, z, rfl, rfl, hq, he, q⟩ := h
  cases rx
  obtain ⟨t, rfl⟩ := ry
  obtain ⟨its, r, pl, hz⟩ := I.list hq
  obtain ⟨j, h1, h2, h3, h4, h5⟩ := atI_get he
  obtain ⟨w, ew, rw'⟩ := r.get h2
  have hl := r.length
  have hn := line63
  have fin : EP X pins σ Q w s := ⟨z, H, I, rw', q⟩
  by_cases h0 : 0 ≤ i
  · have hj : i.toNat = j := by
      rw [seqIndex_of h0 h5] at h1
      exact Option.some.inj h1
    exact wpAny_getItem_list pl.isList h0 (by omega) (by rw [hj]; simpa using ew) fin
  · have hj : (i + (its.toArray.size : Int)).toNat = j := by
      rw [seqIndex_neg (by omega) h4] at h1
      rw [List.size_toArray, ← hl]
      exact Option.some.inj h1
    exact wpAny_getItem_list_neg pl.isList (by omega) (by rw [List.size_toArray] <;> omega) (by omega) (by rw [hj]; simpa using ew) fin
theorem d_saug {g : D → D → Sto → PR} {op : Operator} (ha : PE X a (tE X.K X.mw W fa)) (hb : PE X b (tE X.K X.mw W fb)) (hc : PE X c (tE X.K X.mw W fc)) (ho : OpD X (inplaceOp op) g)
    (hs : ∀ ov iv new, augStore b ov iv new = (do holding [new, ov, iv] (setItem ov iv new); release [new, ov, iv] []; pure .next)) :
    PS X (.AugAssign (.Subscript a b tpos) op c pos) (tS X.K X.mw W (sSAug g fa fb fc)) := by
  refine PS.imp (ps_augS ha hb get_list hc (tip := rDD X.K X.mw g) ho setd_ok hs) fun D' σ H h => ?_
  obtain ⟨env, S, o, ⟨rfl, re, rs⟩, p⟩ := h
  refine ⟨env, S, o, ⟨rfl, re, rs⟩, (Post.bind p).imp fun d S1 o1 l1 rs1 p1 v1 r1 => ?_⟩
  refine ⟨env, S1, o1, ⟨rfl, re.up l1, rs1⟩, (Post.bind p1).imp fun i S2 o2 l2 rs2 p2 v2 r2 => ?_⟩
  unfold kSA2 at p2
  split at p2
  · rename_i x e
    unfold getLD at e
    split at e
    · rename_i n k
      split at e
      · rename_i xs hl
        have r1' := r1.up l2
        cases r2
        cases r1' with
        | @loc n q hn =>
        obtain ⟨vs, h1, r3⟩ := rs2.lst hn hl
        obtain ⟨v, e1, rv⟩ := atI_rel r3 e
        refine ⟨q, vs, _, v, rfl, rfl, SqL.of h1, e1, ?_⟩
        refine ⟨env, S2, o2, ⟨rfl, (re.up l1).up l2, rs2⟩, (Post.bind p2).imp fun y S3 o3 l3 rs3 p3 w r4 => ?_⟩
        have p3' : Post X.K X.mw (wx X.K X.mw W σ) (fun z S4 o4 => Post X.K X.mw (wx X.K X.mw W σ) (FlP X.K X.mw D') o4 (kSA4 env (.loc n) (.int k) z S4)) o3 (lift (g x y S3)) := Post.bind p3
        obtain ⟨z, S4, eg, q3⟩ := lift_post p3'
        refine ⟨o3, x, y, S3, z, S4, rfl, rv.up l3, r4, rs3, eg, fun o4 w4 l4 rs4 r5 => ?_⟩
        have p4 := q3 o4 l4 rs4
        unfold kSA4 at p4
        split at p4
        · rename_i S5 e5
          exact ⟨o4, .loc n, .int k, z, S4, S5, rfl, .loc ((l3.trans l4).rho n q hn), .int k, r5, rs4, e5, fun o5 l5 rs5 => p4 o5 l5 rs5 σ ((((re.up l1).up l2).up l3).up l4 |>.up l5)⟩
        · exact False.elim p4
      · cases e
    · cases e
  · exact False.elim p2
def imulD (a b : D) (S : Sto) : PR := match a, b with
  | .int i, .int j => if mulOk i j = true then some (.int (i * j), S) else none
  | _, _ => none
theorem iop_mulW : OpR X (inplaceOp .Mult) (rI CMulX fun i j => .int (i * j)) := opI fun _ _ _ _ _ _ _ hc q => imul_int q hc.ok
theorem iop_mulD : OpD X (inplaceOp .Mult) imulD := opd_int iop_mulW fun d1 d2 S d S' e => by
  unfold imulD at e
  split at e
  · split at e
    · rename_i hm
      cases e
      exact ⟨_, _, rfl, rfl, mulOk_ok hm, rfl, rfl⟩
    · cases e
  · cases e
end
end PV

set_option Elab.async false
set_option linter.all false
set_option maxRecDepth 100000
set_option maxHeartbeats 3999000
namespace PV
open L2 PyProof.Rows PySem PySem.Spec

/-! ### from the text to its meaning -/
inductive Gb where
  | cst (d : D) | free | fn (dfl : List D) (shs : List Shape) | mt (c m : Str) (dfl : List D) (shs : List Shape) | mk (flds : List Str)
structure CEnv where
  N : List Str
  sc : Scope
  st : Str → Bool
  gl : Str → Option Gb
  call : Str → List D → Sto → Out D
  cs : List Str
def GbOk (n : Nat) (X : Cx) (C : Str → List D → Sto → Out D) (x : Str) : Gb → Prop
  | .cst d => ∃ v u, X.mg x = some u ∧ RelV v u ∧ ∀ o : Wd, RD X.K X.mw o d v
  | .free => X.mg x = none
  | .fn dfl shs => Cal X.prog X.w X.K X.mg X.base n x dfl shs (C x)
  | .mt c m dfl shs => MCal X.prog X.w X.K X.mg X.base n c m dfl shs (C x)
  | .mk flds => KCal X.prog X.w X.K X.mg X.base n x (C x) ∧ ∀ f ∈ flds, ClF X.K X.mg x f
structure Good (n : Nat) (X : Cx) (ce : CEnv) : Prop where
  N : X.N = ce.N
  nd : X.N.Nodup
  sc : X.env.scope = ce.sc
  kind : ce.sc.kind = .function
  st : ∀ x, ce.st x = true → Loc X.env.scope x ∧ (X.fn x = true ∨ X.env.scope.names.lookup x = some .local)
  calm : X.calm = true
  rm : Rm n X.A
  gl : ∀ x g, ce.gl x = some g → GbOk n X ce.call x g
abbrev RC := CEnv → (Expr → Option FE) × (Expr → Option FT)

/-! ### names -/
def ixOf : List Str → Str → Option Nat
  | [], _ => none
  | y :: r, x => if y = x then some 0 else (ixOf r x).map (· + 1)
theorem ixOf_get : ∀ {N : List Str} {x : Str} {i : Nat}, ixOf N x = some i → N[i]? = some x
  | [], _, _, h => by cases h
  | y :: r, x, i, h => by
    unfold ixOf at h
    split at h
    · rename_i e; cases h; rw [← e]; rfl
    · obtain ⟨j, e1, e2⟩ := Option.map_eq_some_iff.mp h
      subst e2
      rw [List.getElem?_cons_succ]
      exact ixOf_get e1
def okNm (x : Str) : Bool := decide ((x == ("__debug__" : Str)) = false ∧ (x == ("__classdict__" : Str)) = false ∧ x ≠ "__name__")
def isVis (sc : Scope) (x : Str) : Bool := decide (sc.names.lookup x = some .local ∨ sc.names.lookup x = some .cell ∨ sc.names.lookup x = some .free)
def isGl (sc : Scope) (x : Str) : Bool := decide (sc.names.lookup x = some .globalImplicit)
/-- a built-in class as a value -/
def tyNm (x : Str) : Option String := if x = "int" then some "int" else if x = "bool" then some "bool" else if x = "tuple" then some "tuple" else if x = "list" then some "list" else if x = "str" then some "str" else if x = "dict" then some "dict" else none
theorem tyNm_ok {x : Str} {n : String} (h : tyNm x = some n) : bootBuiltins x = some (.type n) := by
  unfold tyNm at h
  repeat' split at h
  all_goals first | (rename_i e; cases h; rw [e]; decide +kernel) | cases h
def cName (ce : CEnv) (x : Str) : Option FE :=
  if okNm x = true then
    if isVis ce.sc x = true then (ixOf ce.N x).map eVar
    else if isGl ce.sc x = true then (match ce.gl x with
      | some (.cst d) => some (eC d)
      | some .free => (tyNm x).map fun n => eC (.ty n)
      | _ => none)
    else none
  else none
section
variable {X : Cx} {W : WX} {n : Nat} {ce : CEnv} {pos : Pos}
theorem Good.gx (G : Good n X ce) {x : Str} (h : isGl ce.sc x = true) : Gl X x := by
  show X.env.scope.names.lookup x = some .globalImplicit
  rw [G.sc]
  exact of_decide_eq_true h
theorem c_name (G : Good n X ce) {x : Str} {f : FE} (h : cName ce x = some f) : PE X (.Name x pos) (tE X.K X.mw W f) := by
  unfold cName at h
  split at h
  · rename_i hn
    obtain ⟨h1, h2, h3⟩ := of_decide_eq_true hn
    split at h
    · rename_i hv
      obtain ⟨i, e, rfl⟩ := Option.map_eq_some_iff.mp h
      refine d_var (by rw [G.N]; exact ixOf_get e) ?_ h1 h2
      unfold Vis
      rw [G.sc]
      exact of_decide_eq_true hv
    · split at h
      · rename_i hg
        split at h
        · rename_i d e
          cases h
          obtain ⟨v, u, e1, e2, e3⟩ := G.gl _ _ e
          exact d_c (pe_glob (G.gx hg) e1 e2 h1) e3
        · rename_i e
          obtain ⟨m, e1, rfl⟩ := Option.map_eq_some_iff.mp h
          have e2 : X.mg x = none := G.gl _ _ e
          exact d_c (pe_bltn (v := .ty m) (G.gx hg) e2 (tyNm_ok e1) rfl h3 h1) fun o => .ty m
        · cases h
      · cases h
  · cases h

/-! ### argument lists -/
def noStar : Expr → Bool
  | .Starred .. => false
  | _ => true
theorem star_cons {e : Expr} {es : List Expr} {env : PySem.Env} (h : noStar e = true) : starEach (e :: es) env = (false, eval e env) :: starEach es env := by
  cases e <;> first | rfl | cases h
theorem nost_any : ∀ {es : List Expr} {env : PySem.Env} {pos : Pos}, es.all noStar = true → (backTo pos (starEach es env)).any (·.1) = false
  | [], _, _, _ => rfl
  | e :: es, env, pos, h => by
    rw [List.all_cons, Bool.and_eq_true] at h
    rw [star_cons h.1]
    show (false || (backTo pos (starEach es env)).any (·.1)) = false
    rw [nost_any h.2]
    rfl
def cArgs (f : Expr → Option FE) : List Expr → Option FA
  | [] => some aNil
  | e :: r => if noStar e = true then (match f e, cArgs f r with
    | some fe, some fr => some (aCons fe fr)
    | _, _ => none) else none
theorem c_args {f : Expr → Option FE} (hf : ∀ e fe, f e = some fe → PE X e (tE X.K X.mw W fe)) : ∀ {es : List Expr} {fr : FA}, cArgs f es = some fr → PA X es (tA X.K X.mw W fr) ∧ LenA fr es.length ∧ es.all noStar = true
  | [], _, h => by cases h; exact ⟨d_anil, lenA_nil, rfl⟩
  | e :: r, fr, h => by
    unfold cArgs at h
    split at h
    · rename_i hs
      split at h
      · rename_i fe fr' e1 e2
        cases h
        obtain ⟨h1, h2, h3⟩ := c_args hf e2
        exact ⟨d_acons (hf _ _ e1) h1 (star_cons hs), lenA_cons h2, by rw [List.all_cons, hs, h3]; rfl⟩
      · cases h
    · cases h
/-- with stars -/
def cArgsS (f : Expr → Option FE) : List Expr → Option FA
  | [] => some aNil
  | .Starred e _ :: r => (match f e, cArgsS f r with
    | some fe, some fr => some (aStar fe fr)
    | _, _ => none)
  | e :: r => if noStar e = true then (match f e, cArgsS f r with
    | some fe, some fr => some (aCons fe fr)
    | _, _ => none) else none
theorem c_argsS {f : Expr → Option FE} (hf : ∀ e fe, f e = some fe → PE X e (tE X.K X.mw W fe)) : ∀ {es : List Expr} {fr : FA}, cArgsS f es = some fr → PA X es (tA X.K X.mw W fr)
  | [], _, h => by cases h; exact d_anil
  | e :: r, fr, h => by
    unfold cArgsS at h
    split at h
    · exact nomatch ‹e :: r = []›
    · rename_i e0 p0 r0 eq
      cases eq
      split at h
      · cases h
        exact d_astar (hf _ _ ‹_›) (c_argsS hf ‹_›)
      · cases h
    · rename_i e0 r0 _ eq
      cases eq
      split at h
      · rename_i hs
        split at h
        · cases h
          exact d_acons (hf _ _ ‹_›) (c_argsS hf ‹_›) (star_cons hs)
        · cases h
      · cases h
def cKws (f : Expr → Option FE) : List Keyword → Option FA
  | [] => some aNil
  | ⟨some _, e, _⟩ :: r => (match f e, cKws f r with
    | some fe, some fr => some (aCons fe fr)
    | _, _ => none)
  | _ => none
def kwNm : List Keyword → List Str
  | [] => []
  | ⟨some x, _, _⟩ :: r => x :: kwNm r
  | ⟨none, _, _⟩ :: r => kwNm r
theorem c_kws {f : Expr → Option FE} (hf : ∀ e fe, f e = some fe → PE X e (tE X.K X.mw W fe)) : ∀ {ks : List Keyword} {fr : FA}, cKws f ks = some fr → PK X ks (tA X.K X.mw W fr) ∧ LenA fr (kwNm ks).length ∧
    (∀ pos env, (backToKw pos (keywordEach ks env)).filterMap (·.1) = kwNm ks) ∧ (∀ pos env, (backToKw pos (keywordEach ks env)).all (·.1.isSome) = true) ∧ ∀ pos env, (backToKw pos (keywordEach ks env)).any (·.1.isNone) = false
  | [], _, h => by cases h; exact ⟨d_knil, lenA_nil, fun _ _ => rfl, fun _ _ => rfl, fun _ _ => rfl⟩
  | ⟨some x, e, kp⟩ :: r, fr, h => by
    unfold cKws at h
    split at h
    · rename_i fe fr' e1 e2
      cases h
      obtain ⟨h1, h2, h3, h4, h5⟩ := c_kws hf e2
      refine ⟨d_kcons (hf _ _ e1) h1, lenA_cons h2, fun pos env => ?_, fun pos env => ?_, fun pos env => ?_⟩
      · show (x :: (backToKw pos (keywordEach r env)).filterMap (·.1)) = x :: kwNm r
        rw [h3]
      · show (true && (backToKw pos (keywordEach r env)).all (·.1.isSome)) = true
        rw [h4]; rfl
      · show (false || (backToKw pos (keywordEach r env)).any (·.1.isNone)) = false
        rw [h5]; rfl
    · cases h
  | ⟨none, e, kp⟩ :: r, fr, h => by cases h

/-! ### operators -/
def binOf : Operator → Option (D → D → Sto → PR)
  | .Add => some addD
  | .Sub => some subD
  | .Mult => some mulD
  | .FloorDiv => some fdivD
  | .Mod => some modD
  | .Pow => some powD
  | .LShift => some shlD
  | .RShift => some shrD
  | .BitAnd => some andD
  | .BitOr => some orD
  | .BitXor => some xorD
  | _ => none
theorem c_bin {op : Operator} {g : D → D → Sto → PR} (h : binOf op = some g) : OpD X (binaryOp op) g := by
  cases op <;> cases h
  · exact opd_add
  · exact opd_sub
  · exact opd_mul
  · exact opd_mod
  · exact opd_pow
  · exact opd_shl
  · exact opd_shr
  · exact opd_or
  · exact opd_xor
  · exact opd_and
  · exact opd_fdiv
def cmpOf : CmpOp → (D → D → Sto → PR)
  | .Eq => eqD
  | .NotEq => neD
  | .Lt => ordD .lt
  | .LtE => ordD .le
  | .Gt => ordD .gt
  | .GtE => ordD .ge
  | .Is => isD
  | .IsNot => isNotD
  | .In => inDD
  | .NotIn => notInDD
theorem c_cmp (G : Good n X ce) (op : CmpOp) : OpD X (compareOp op) (cmpOf op) := by
  have hu := G.rm.un
  cases op
  · exact opd_eq (by omega)
  · exact opd_ne (by omega)
  · exact opd_ord .lt (by omega)
  · exact opd_ord .le (by omega)
  · exact opd_ord .gt (by omega)
  · exact opd_ord .ge (by omega)
  · exact opd_is
  · exact opd_isNot
  · exact opd_inDD (by omega)
  · exact opd_notInDD (by omega)
def noSet : Expr → Bool
  | .Set .. => false
  | _ => true
theorem noSet_mark {b : Expr} (h : noSet b = true) (op : CmpOp) : behindInMarks op b = false := by
  cases b <;> first | rfl | cases h
theorem noSet_fold {b : Expr} (h : noSet b = true) (env : PySem.Env) (x : Value) : foldedSetIterable b env x = pure x := by
  cases b <;> first | rfl | cases h
inductive Cmp2 where
  | one (op : CmpOp) (b : Expr) | two (op op' : CmpOp) (b c : Expr)
def cmp2 : List CmpOp → List Expr → Option Cmp2
  | [op], [b] => some (.one op b)
  | [op, op'], [b, c] => some (.two op op' b c)
  | _, _ => none
def cCmp (f : Expr → Option FE) (a : Expr) (ops : List CmpOp) (bs : List Expr) : Option FE := match cmp2 ops bs with
  | some (.one op b) => if noSet b = true then (match f a, f b with
    | some fa, some fb => some (eBin (cmpOf op) fa fb)
    | _, _ => none) else none
  | some (.two op op' b c) => if noSet c = true then (match f a, f b, f c with
    | some fa, some fb, some fc => some (eCh (cmpOf op) (cmpOf op') fa fb fc)
    | _, _, _ => none) else none
  | none => none
theorem cmp2_one {ops : List CmpOp} {bs : List Expr} {op : CmpOp} {b : Expr} (h : cmp2 ops bs = some (.one op b)) : ops = [op] ∧ bs = [b] := by
  unfold cmp2 at h
  split at h
  · cases h; exact ⟨rfl, rfl⟩
  · cases h
  · cases h
theorem cmp2_two {ops : List CmpOp} {bs : List Expr} {op op' : CmpOp} {b c : Expr} (h : cmp2 ops bs = some (.two op op' b c)) : ops = [op, op'] ∧ bs = [b, c] := by
  unfold cmp2 at h
  split at h
  · cases h
  · cases h; exact ⟨rfl, rfl⟩
  · cases h
theorem c_cmpE (G : Good n X ce) {f : Expr → Option FE} (hf : ∀ e fe, f e = some fe → PE X e (tE X.K X.mw W fe)) {a : Expr} {ops : List CmpOp} {bs : List Expr} {fe : FE} (h : cCmp f a ops bs = some fe) :
    PE X (.Compare a ops bs pos) (tE X.K X.mw W fe) ∧ PT X (.Compare a ops bs pos) (tT X.K X.mw W (tB' fe)) := by
  unfold cCmp at h
  split at h
  · rename_i op b e
    obtain ⟨rfl, rfl⟩ := cmp2_one e
    split at h
    · rename_i hs
      split at h
      · rename_i fa fb e1 e2
        cases h
        exact ⟨d_cmp (c_cmp G op) (hf _ _ e1) (hf _ _ e2) (noSet_mark hs op), d_tcmp (c_cmp G op) (hf _ _ e1) (hf _ _ e2) (noSet_mark hs op)⟩
      · cases h
    · cases h
  · rename_i op op' b c e
    obtain ⟨rfl, rfl⟩ := cmp2_two e
    split at h
    · rename_i hs
      split at h
      · rename_i fa fb fc e1 e2 e3
        cases h
        have hm : lastMarks [op, op'] [b, c] = false := by
          show behindInMarks op' c = false
          exact noSet_mark hs op'
        exact ⟨d_ch (c_cmp G op) (c_cmp G op') (hf _ _ e1) (hf _ _ e2) (hf _ _ e3) hm, d_tch (c_cmp G op) (c_cmp G op') (hf _ _ e1) (hf _ _ e2) (hf _ _ e3) hm⟩
      · cases h
    · cases h
  · cases h
def cBoolE (f : Expr → Option FE) (op : BoolOp) : List Expr → Option FE
  | [] => none
  | [a] => f a
  | a :: r => (match f a, cBoolE f op r with
    | some fa, some fr => (match op with
      | .And => some (eAnd fa fr)
      | .Or => some (eOr fa fr))
    | _, _ => none)
theorem c_boolE {f : Expr → Option FE} (hf : ∀ e fe, f e = some fe → PE X e (tE X.K X.mw W fe)) {op : BoolOp} : ∀ {es : List Expr} {fe : FE}, cBoolE f op es = some fe → PE X (.BoolOp op es pos) (tE X.K X.mw W fe)
  | [], _, h => by cases h
  | [a], _, h => pe_one (hf _ _ h)
  | a :: b :: r, fe, h => by
    unfold cBoolE at h
    split at h
    · rename_i fa fr e1 e2
      have ih := c_boolE hf e2
      cases op with
      | And => cases h; exact d_and (hf _ _ e1) ih
      | Or => cases h; exact d_or (hf _ _ e1) ih
    · cases h
def cBoolT (f : Expr → Option FT) (op : BoolOp) : List Expr → Option FT
  | [] => none
  | [a] => f a
  | a :: r => (match f a, cBoolT f op r with
    | some fa, some fr => (match op with
      | .And => some (tAndF fa fr)
      | .Or => some (tOrF fa fr))
    | _, _ => none)
theorem c_boolT {f : Expr → Option FT} (hf : ∀ e fe, f e = some fe → PT X e (tT X.K X.mw W fe)) {op : BoolOp} : ∀ {es : List Expr} {fe : FT}, cBoolT f op es = some fe → PW X (.BoolOp op es pos) (tT X.K X.mw W fe)
  | [], _, h => by cases h
  | [a], _, h => by
    cases op with
    | And => exact pw_and1 (hf _ _ h)
    | Or => exact pw_or1 (hf _ _ h)
  | a :: b :: r, fe, h => by
    unfold cBoolT at h
    split at h
    · rename_i fa fr e1 e2
      have ih := c_boolT hf e2
      cases op with
      | And => cases h; exact d_tand (hf _ _ e1) ih
      | Or => cases h; exact d_tor (hf _ _ e1) ih
    · cases h

/-! ### calls -/
/-- the built-in functions and classes -/
def biTab : List (Str × Bool × String × (List D → Sto → PR)) := [("len", false, "len", lenD), ("abs", false, "abs", absD), ("int", true, "int", intD), ("list", true, "list", listD), ("tuple", true, "tuple", tupleD), ("all", false, "all", allD), ("any", false, "any", anyD), ("sum", false, "sum", sumD), ("max", false, "max", maxD), ("min", false, "min", minD), ("repr", false, "repr", reprD), ("isinstance", false, "isinstance", isiD), ("sorted", false, "sorted", sortedD)]
def biOf (x : Str) : Option (Bool × String × (List D → Sto → PR)) := biTab.lookup x
def BiOk (X : Cx) (x : Str) (b : Bool) (id : String) (g : List D → Sto → PR) : Prop := match b with
  | true => CallD X (.type id) g ∧ bootBuiltins x = some (.type id)
  | false => CallD X (.builtin id) g ∧ bootBuiltins x = some (.builtin id)
theorem c_bi (G : Good n X ce) {x : Str} {b : Bool} {id : String} {g : List D → Sto → PR} (h : biOf x = some (b, id, g)) : BiOk X x b id g := by
  have hc := G.calm
  have hm := PySem.mem_of_lookup h
  unfold biTab at hm
  simp only [List.mem_cons, List.not_mem_nil, or_false] at hm
  rcases hm with h | h | h | h | h | h | h | h | h | h | h | h | h
  · cases h; exact ⟨cd_len, by decide +kernel⟩
  · cases h; exact ⟨cd_abs, by decide +kernel⟩
  · cases h; exact ⟨cd_int, by decide +kernel⟩
  · cases h; exact ⟨cd_list, by decide +kernel⟩
  · cases h; exact ⟨cd_tuple, by decide +kernel⟩
  · cases h; exact ⟨cd_all hc, by decide +kernel⟩
  · cases h; exact ⟨cd_any hc, by decide +kernel⟩
  · cases h; exact ⟨cd_sum hc, by decide +kernel⟩
  · cases h; exact ⟨cd_max hc, by decide +kernel⟩
  · cases h; exact ⟨cd_min hc, by decide +kernel⟩
  · cases h; exact ⟨cd_repr, by decide +kernel⟩
  · cases h; exact ⟨cd_isi, by decide +kernel⟩
  · cases h; exact ⟨cd_sorted (by have := G.rm.un; omega), by decide +kernel⟩
def shIx (n : Nat) (ks : List Str) : List Shape → Option Shape
  | [] => none
  | s :: r => if s.n = n ∧ s.ks = ks then some s else shIx n ks r
theorem shIx_ok {n : Nat} {ks : List Str} : ∀ {l : List Shape} {s : Shape}, shIx n ks l = some s → s ∈ l ∧ s.n = n ∧ s.ks = ks
  | [], _, h => by cases h
  | t :: r, s, h => by
    unfold shIx at h
    split at h
    · rename_i e; cases h; exact ⟨List.mem_cons_self, e.1, e.2⟩
    · obtain ⟨h1, h2⟩ := shIx_ok h; exact ⟨List.mem_cons_of_mem _ h1, h2⟩
def cCallN (ce : CEnv) (f : Expr → Option FE) (x : Str) (es : List Expr) (ks : List Keyword) : Option FE :=
  if okNm x = true ∧ isGl ce.sc x = true then (match ce.gl x with
    | some .free => (match ks, es with
      | [], _ :: _ => (match biOf x, cArgs f es with
        | some (_, _, g), some fa => some (eCB g fa)
        | _, _ => none)
      | _, _ => none)
    | some (.fn dfl shs) => (match shIx es.length (kwNm ks) shs, cArgs f es, cKws f ks with
      | some sh, some fa, some fk => some (eCall (ce.call x) sh.src dfl fa fk)
      | _, _, _ => none)
    | some (.mk _) => (match ks with
      | [] => (cArgs f es).map (eMk (ce.call x))
      | _ => none)
    | _ => none)
  else none
theorem args_nil {f : Expr → Option FE} {es : List Expr} {fa : FA} (h : cArgs f es = some fa) : es = [] → fa = aNil := fun e => by
  subst e
  cases h
  rfl
theorem c_callN (G : Good n X ce) (tk : Takes X W) {f : Expr → Option FE} (hf : ∀ e fe, f e = some fe → PE X e (tE X.K X.mw W fe)) {x : Str} {p : Pos} {es : List Expr} {ks : List Keyword} {fe : FE} (h : cCallN ce f x es ks = some fe) :
    PE X (.Call (.Name x p) es ks pos) (tE X.K X.mw W fe) := by
  unfold cCallN at h
  split at h
  · rename_i hx
    obtain ⟨h1, h2, h3⟩ := of_decide_eq_true hx.1
    split at h
    · rename_i e
      have e2 : X.mg x = none := G.gl _ _ e
      split at h
      · rename_i a r
        split at h
        · rename_i b id g fa eb ea
          cases h
          obtain ⟨q1, q2, q3⟩ := c_args hf ea
          rw [List.all_cons, Bool.and_eq_true] at q3
          have z := c_bi G eb
          cases b with
          | true => exact d_callTy z.1 (G.gx hx.2) e2 z.2 q1 h3 h1 (star_cons q3.1) (nost_any q3.2)
          | false => exact d_callB z.1 (G.gx hx.2) e2 z.2 q1 h3 h1 (star_cons q3.1) (nost_any q3.2)
        · cases h
      · cases h
    · rename_i dfl shs e
      have C : Cal X.prog X.w X.K X.mg X.base n x dfl shs (ce.call x) := G.gl _ _ e
      split at h
      · rename_i sh fa fk e1 e2 e3
        cases h
        obtain ⟨hm, hn, hk⟩ := shIx_ok e1
        obtain ⟨q1, q2, q3⟩ := c_args hf e2
        obtain ⟨k1, k2, k3, k4, k5⟩ := c_kws hf e3
        have hpl : ((backTo pos (starEach es X.env)).any (·.1) || (backToKw pos (keywordEach ks X.env)).any (·.1.isNone)) = false := by rw [nost_any q3, k5]; rfl
        cases es with
        | nil =>
          cases e2
          exact d_call0 C hm G.rm tk (G.gx hx.2) hn k1 (by rw [hk]; exact k2) (by rw [hk]; exact k3 _ _) (k4 _ _) h1 hpl
        | cons a r =>
          have q3' := q3
          rw [List.all_cons, Bool.and_eq_true] at q3'
          exact d_call C hm G.rm tk (G.gx hx.2) q1 (by rw [hn]; exact q2) k1 (by rw [hk]; exact k2) (by rw [hk]; exact k3 _ _) (k4 _ _) h1 (star_cons q3'.1) hpl
      · cases h
    · rename_i flds e
      have C := (G.gl _ _ e).1
      split at h
      · obtain ⟨fa, e1, rfl⟩ := Option.map_eq_some_iff.mp h
        obtain ⟨q1, q2, q3⟩ := c_args hf e1
        refine d_make C G.rm tk (G.gx hx.2) q1 (args_nil e1) h1 (fun a r e => ?_) (fun a r e => ?_)
        · subst e
          rw [List.all_cons, Bool.and_eq_true] at q3
          exact star_cons q3.1
        · subst e
          rw [List.all_cons, Bool.and_eq_true] at q3
          exact nost_any q3.2
      · cases h
    · cases h
  · cases h

/-! ### methods -/
def mtOf (m : Str) : Option (String × (D → List D → Sto → PR)) := if m = "append" then some ("list.append", appendD) else if m = "extend" then some ("list.extend", extendD) else if m = "pop" then some ("list.pop", popD) else none
/-- no call without arguments stands ahead of the dot -/
def baseOk : Expr → Bool
  | .Call (.Name ..) [] [] _ => false
  | _ => true
theorem base_ok {o : Expr} {m : Str} {env : PySem.Env} {wh : Sem Value} (h : baseOk o = true) : attributeBase o m env wh = wh := by
  cases o with
  | Call f as ks p =>
    cases f with
    | Name x q =>
      cases as with
      | nil =>
        cases ks with
        | nil => cases h
        | cons a b => rfl
      | cons a b => rfl
    | _ => rfl
  | _ => rfl
def cMeth (f : Expr → Option FE) (o : Expr) (m : Str) (apos pos : Pos) (es : List Expr) : Option FE :=
  if baseOk o = true ∧ (apos.endLine == pos.line) = true ∧ es.length < 30 then (match mtOf m, f o, cArgs f es with
    | some (_, g), some fo, some fa => some (eM g fo fa)
    | _, _, _ => none)
  else none
/-- the classes that have a field -/
def clsOf (ce : CEnv) (f : Str) : List Str := ce.cs.filter fun c => match ce.gl c with
  | some (.mk flds) => flds.contains f
  | _ => false
def dotS (c m : Str) : Str := c ++ "." ++ m
/-- the classes that have a method, called so -/
def candsOf (ce : CEnv) (m : Str) (n : Nat) (ks : List Str) : List Cand := ce.cs.filterMap fun c => match ce.gl (dotS c m) with
  | some (.mt c' m' dfl shs) => if c' = c ∧ m' = m then (shIx (n + 1) ks shs).map fun sh => ⟨c, dotS c m, sh.src, dfl⟩ else none
  | _ => none
def cFld (ce : CEnv) (f : Expr → Option FE) (o : Expr) (x : Str) : Option FE := if baseOk o = true ∧ (clsOf ce x).isEmpty = false then (f o).map (eFld (clsOf ce x) x) else none
def cMethI (ce : CEnv) (f : Expr → Option FE) (o : Expr) (m : Str) (apos pos : Pos) (es : List Expr) (ks : List Keyword) : Option FE :=
  if baseOk o = true ∧ (apos.endLine == pos.line) = true ∧ es.length + ks.length + 1 < 30 ∧ (candsOf ce m es.length (kwNm ks)).isEmpty = false then (match f o, cArgs f es, cKws f ks with
    | some fo, some fa, some fk => some (eMth ce.call m (candsOf ce m es.length (kwNm ks)) fo fa fk)
    | _, _, _ => none)
  else none
theorem clsOf_ok (G : Good n X ce) {f : Str} : ∀ c ∈ clsOf ce f, ClF X.K X.mg c f := fun c h => by
  obtain ⟨h1, h2⟩ := List.mem_filter.mp h
  split at h2
  · rename_i flds e
    exact (G.gl _ _ e).2 f (List.contains_iff_mem.mp h2)
  · cases h2
theorem candsOf_ok (G : Good n X ce) {m : Str} {k : Nat} {ks : List Str} : ∀ x ∈ candsOf ce m k ks, ∃ sh, sh.n = k + 1 ∧ sh.ks = ks ∧ sh.src = x.src ∧ MCal X.prog X.w X.K X.mg X.base n x.c m x.dfl [sh] (ce.call x.g) := fun x h => by
  obtain ⟨c, h1, h2⟩ := List.mem_filterMap.mp h
  split at h2
  · rename_i c' m' dfl shs e
    split at h2
    · rename_i hc
      obtain ⟨rfl, rfl⟩ := hc
      obtain ⟨sh, e1, rfl⟩ := Option.map_eq_some_iff.mp h2
      obtain ⟨s1, s2, s3⟩ := shIx_ok e1
      have M : MCal X.prog X.w X.K X.mg X.base n c' m' dfl shs (ce.call (dotS c' m')) := G.gl _ _ e
      obtain ⟨C, f, fd, ps, dvs, m1, m2, m3, m4, m5, m6, m7⟩ := M.ex
      exact ⟨sh, s2, s3, rfl, ⟨C, f, fd, ps, dvs, m1, m2, m3, m4, m5, m6, fun sh' h' => by rw [List.mem_singleton.mp h']; exact m7 sh s1⟩⟩
    · cases h2
  · cases h2
theorem c_fld (G : Good n X ce) {f : Expr → Option FE} (hf : ∀ e fe, f e = some fe → PE X e (tE X.K X.mw W fe)) {o : Expr} {x : Str} {fe : FE} (h : cFld ce f o x = some fe) : PE X (.Attribute o x pos) (tE X.K X.mw W fe) := by
  unfold cFld at h
  split at h
  · rename_i hc
    obtain ⟨fo, e1, rfl⟩ := Option.map_eq_some_iff.mp h
    exact d_fld (clsOf_ok G) (hf _ _ e1) (base_ok hc.1)
  · cases h
theorem kw_len : ∀ ks : List Keyword, (kwNm ks).length ≤ ks.length
  | [] => Nat.le_refl _
  | ⟨some _, _, _⟩ :: r => Nat.succ_le_succ (kw_len r)
  | ⟨none, _, _⟩ :: r => Nat.le_succ_of_le (kw_len r)
theorem c_methI (G : Good n X ce) (tk : Takes X W) {f : Expr → Option FE} (hf : ∀ e fe, f e = some fe → PE X e (tE X.K X.mw W fe)) {o : Expr} {m : Str} {apos : Pos} {es : List Expr} {ks : List Keyword} {fe : FE} (h : cMethI ce f o m apos pos es ks = some fe) :
    PE X (.Call (.Attribute o m apos) es ks pos) (tE X.K X.mw W fe) := by
  unfold cMethI at h
  split at h
  · rename_i hc
    split at h
    · rename_i fo fa fk e1 e2 e3
      cases h
      obtain ⟨q1, q2, q3⟩ := c_args hf e2
      obtain ⟨k1, k2, k3, k4, k5⟩ := c_kws hf e3
      have hna : (backTo pos (starEach es X.env)).any (·.1) = false := nost_any q3
      refine d_meth (candsOf_ok G) G.rm tk (hf _ _ e1) q1 q2 (args_nil e2) k1 k2 (k3 _ _) (k4 _ _) (base_ok hc.1) ?_ hc.2.1 (fun e r z => ?_) (by rw [hna, k5]; rfl)
      · unfold methodCallForm
        have z1 : (backTo pos (starEach es X.env)).all (fun x => !x.1) = true := by
          rw [List.all_eq_not_any_not]
          simp only [Bool.not_not]
          rw [hna]
          rfl
        have z2 : (if ks.isEmpty = true then 0 else 1) ≤ 1 := by split <;> omega
        have z3 := hc.2.2.1
        simp only [z1, k4, Bool.true_and, decide_eq_true_eq]
        first | omega | (split <;> omega)
      · subst z
        rw [List.all_cons, Bool.and_eq_true] at q3
        exact star_cons q3.1
    · cases h
  · cases h
theorem slot_mt {m : Str} {id : String} {g : D → List D → Sto → PR} (h : mtOf m = some (id, g)) : Slot "list" m id ∧ typeOf (.builtin id) = pure (.type "method_descriptor") ∧ MtD X id g := by
  unfold mtOf at h
  split at h; · rename_i e; cases h; rw [e]; exact ⟨PySem.F.slot_list_append, PySem.F.type_list_append, md_append⟩
  split at h; · rename_i e; cases h; rw [e]; exact ⟨PySem.F.slot_list_extend, PySem.F.type_list_extend, md_extend⟩
  split at h; · rename_i e; cases h; rw [e]; exact ⟨PySem.F.slot_list_pop, PySem.F.type_list_pop, md_pop⟩
  cases h
end
end PV

set_option Elab.async false
set_option linter.all false
set_option maxRecDepth 100000
set_option maxHeartbeats 3999000
namespace PV
open L2 PyProof.Rows PySem PySem.Spec
section
variable {X : Cx} {W : WX} {n : Nat} {ce : CEnv} {pos : Pos}
theorem kw_nil_all {p : Pos} {env : PySem.Env} {es : List Expr} (h : es.all noStar = true) : (backTo p (starEach es env)).all (fun x => !x.1) = true := by
  have q := nost_any (env := env) (pos := p) h
  rw [List.all_eq_not_any_not]
  simp only [Bool.not_not]
  rw [q]
  rfl
theorem c_meth {f : Expr → Option FE} (hf : ∀ e fe, f e = some fe → PE X e (tE X.K X.mw W fe)) {o : Expr} {m : Str} {apos : Pos} {es : List Expr} {fe : FE} (h : cMeth f o m apos pos es = some fe) :
    PE X (.Call (.Attribute o m apos) es [] pos) (tE X.K X.mw W fe) := by
  unfold cMeth at h
  split at h
  · rename_i hc
    split at h
    · rename_i id g fo fa e1 e2 e3
      cases h
      obtain ⟨s1, s2, s3⟩ := slot_mt (X := X) e1
      obtain ⟨q1, q2, q3⟩ := c_args hf e3
      have ho := hf _ _ e2
      cases es with
      | nil =>
        cases e3
        refine PE.imp (pe_bm0 PySem.F.plainAttrs_list s1 s2 s3 ho (base_ok hc.1) hc.2.1) fun σ H Q h => ?_
        obtain ⟨env, S, o', ⟨rfl, re, rs⟩, p⟩ := h
        refine ⟨env, S, o', ⟨rfl, re, rs⟩, (Post.bind p).imp fun d S1 o1 l1 rs1 p1 v r => ?_⟩
        cases r with
        | @loc k a hk =>
          dsimp only at p1
          split at p1
          · rename_i xs hl
            obtain ⟨vs, h1, _⟩ := rs1.lst hk hl
            obtain ⟨d, S', e, q⟩ := lift_post (show Post X.K X.mw _ _ o1 (lift (g (.loc k) [] S1)) from p1)
            exact ⟨.inl ⟨rfl, vs, SqL.of h1⟩, o1, .loc k, [], S1, d, S', rfl, .loc hk, .nil, rs1, e, fun o' v l rs r => q o' l rs v r⟩
          · exact False.elim p1
        | _ => exact False.elim p1
      | cons a r =>
        have q3' := q3
        rw [List.all_cons, Bool.and_eq_true] at q3'
        refine PE.imp (pe_bm PySem.F.plainAttrs_list s1 s2 s3 ho q1 (base_ok hc.1) ?_ hc.2.1 (star_cons q3'.1) (nost_any q3'.2)) fun σ H Q h => ?_
        · rw [kw_nil_all q3]
          show (true && true && decide ((a :: r).length + 0 + 0 < 30)) = true
          rw [decide_eq_true (show (a :: r).length + 0 + 0 < 30 from hc.2.2)]
          rfl
        · obtain ⟨env, S, o', ⟨rfl, re, rs⟩, p⟩ := h
          refine ⟨env, S, o', ⟨rfl, re, rs⟩, (Post.bind p).imp fun d S1 o1 l1 rs1 p1 v r => ?_⟩
          cases r with
          | @loc k a hk =>
            dsimp only at p1
            split at p1
            · rename_i xs hl
              obtain ⟨vs, h1, _⟩ := rs1.lst hk hl
              refine ⟨.inl ⟨rfl, vs, SqL.of h1⟩, env, S1, o1, ⟨rfl, re.up l1, rs1⟩, (Post.bind p1).imp fun ds S2 o2 l2 rs2 p2 ws r2 => ?_⟩
              obtain ⟨d, S', e, q⟩ := lift_post p2
              exact ⟨o2, .loc k, ds, S2, d, S', rfl, .loc (l2.rho _ _ hk), r2, rs2, e, fun o' v l rs r => q o' l rs v r⟩
            · exact False.elim p1
          | _ => exact False.elim p1
    · cases h
  · cases h

/-! ### targets -/
def cNm (ce : CEnv) (x : Str) : Option Nat := if ce.st x = true then ixOf ce.N x else none
/-- self.f as a target -/
def cGa (ce : CEnv) (x f : Str) : Option (List Str × Nat) := if okNm x = true ∧ isVis ce.sc x = true ∧ (clsOf ce f).isEmpty = false then (ixOf ce.N x).map fun i => (clsOf ce f, i) else none
abbrev GsF := List Expr → Option (List FG × List Nat)
def cGt (sub : GsF) (ce : CEnv) : GsF
  | [] => some ([], [])
  | .Name x _ :: r => (match cNm ce x, cGt sub ce r with
    | some i, some (gs, ch) => some (gNm i :: gs, i :: ch)
    | _, _ => none)
  | .Attribute (.Name x _) f _ :: r => (match cGa ce x f, cGt sub ce r with
    | some (cs, i), some (gs, ch) => some (gFl cs f (eVar i) :: gs, ch)
    | _, _ => none)
  | .Tuple es _ _ :: r => (match sub es, cGt sub ce r with
    | some (hs, ch1), some (gs, ch) => some (gTp hs :: gs, ch1 ++ ch)
    | _, _ => none)
  | _ => none
def cGs (ce : CEnv) : GsF := cGt (cGt (fun _ => none) ce) ce
def cG (ce : CEnv) : Expr → Option (FG × List Nat)
  | .Name x _ => (cNm ce x).map fun i => (gNm i, [i])
  | .Tuple es _ _ => (cGs ce es).map fun p => (gTp p.1, p.2)
  | _ => none
theorem c_nm (G : Good n X ce) {x : Str} {i : Nat} (h : cNm ce x = some i) : X.N[i]? = some x ∧ Loc X.env.scope x ∧ (X.fn x = true ∨ X.env.scope.names.lookup x = some .local) := by
  unfold cNm at h
  split at h
  · rename_i hs
    exact ⟨by rw [G.N]; exact ixOf_get h, G.st x hs⟩
  · cases h
theorem c_ga (G : Good n X ce) {x f : Str} {cs : List Str} {i : Nat} {p q : Pos} (h : cGa ce x f = some (cs, i)) : PG X (.Attribute (.Name x p) f q) (tG X.K X.mw W [] (gFl cs f (eVar i))) := by
  unfold cGa at h
  split at h
  · rename_i hc
    obtain ⟨j, e1, e2⟩ := Option.map_eq_some_iff.mp h
    cases e2
    refine d_gfl (clsOf_ok G) (c_name G (f := eVar i) ?_)
    unfold cName
    rw [if_pos hc.1, if_pos hc.2.1, e1]
    rfl
  · cases h
theorem cons_len {e : Expr} {r : List Expr} {m : Nat} {env : PySem.Env} (h2 : (assignEach r env).length = m) (he : assignEach (e :: r) env = (false, assign e env) :: assignEach r env) : (assignEach (e :: r) env).length = m + 1 := by
  rw [he, List.length_cons, h2]
theorem cons_find {e : Expr} {r : List Expr} {env : PySem.Env} (h3 : (assignEach r env).findIdx? (·.1) = none) (he : assignEach (e :: r) env = (false, assign e env) :: assignEach r env) : (assignEach (e :: r) env).findIdx? (·.1) = none := by
  rw [he, List.findIdx?_cons]
  simp [h3]
theorem c_gt (G : Good n X ce) (hW : Flat W) {sub : GsF} (hsub : ∀ {es : List Expr} {gs : List FG} {ch : List Nat}, sub es = some (gs, ch) → PGs X es (tGs X.K X.mw W ch gs) ∧ (assignEach es X.env).length = gs.length ∧ (assignEach es X.env).findIdx? (·.1) = none ∧ ∀ g ∈ gs, Tame g) {es : List Expr} : ∀ {gs : List FG} {ch : List Nat}, cGt sub ce es = some (gs, ch) → PGs X es (tGs X.K X.mw W ch gs) ∧ (assignEach es X.env).length = gs.length ∧ (assignEach es X.env).findIdx? (·.1) = none ∧ ∀ g ∈ gs, Tame g := by
  induction es using cGt.induct (sub := sub) (ce := ce) with
  | case1 => intro gs ch h; unfold cGt at h; cases h; exact ⟨d_gnil, rfl, rfl, fun _ h => nomatch h⟩
  | case2 x p r i gs' ch' e2 e1 ih =>
    intro gs ch h
    unfold cGt at h
    rw [e1, e2] at h
    cases h
    obtain ⟨h1, h2, h3, h4⟩ := ih e2
    obtain ⟨k1, k2, k3⟩ := c_nm G e1
    refine ⟨d_gcons hW (d_gnm G.nd k1 k2 k3) h1 rfl, cons_len h2 rfl, cons_find h3 rfl, fun g hg => ?_⟩
    rcases List.mem_cons.mp hg with rfl | hg
    · exact tame_nm
    · exact h4 g hg
  | case3 x p r hn ih =>
    intro gs ch h
    unfold cGt at h
    split at h
    · exact (hn _ _ _ ‹_› ‹_›).elim
    · cases h
  | case4 x p f q r cs i gs' ch' e2 e1 ih =>
    intro gs ch h
    unfold cGt at h
    rw [e1, e2] at h
    cases h
    obtain ⟨h1, h2, h3, h4⟩ := ih e2
    refine ⟨d_gcons (c1 := []) hW (c_ga G e1) h1 rfl, cons_len h2 rfl, cons_find h3 rfl, fun g hg => ?_⟩
    rcases List.mem_cons.mp hg with rfl | hg
    · exact tame_fl
    · exact h4 g hg
  | case5 x p f q r hn ih =>
    intro gs ch h
    unfold cGt at h
    split at h
    · exact (hn _ _ _ _ ‹_› ‹_›).elim
    · cases h
  | case6 es k q r hs ch1 gs' ch' e2 e1 ih =>
    intro gs ch h
    unfold cGt at h
    rw [e1, e2] at h
    cases h
    obtain ⟨h1, h2, h3, h4⟩ := ih e2
    obtain ⟨k1, k2, k3, k4⟩ := hsub e1
    refine ⟨d_gcons hW (d_gtp G.calm k4 k1 k2 k3) h1 rfl, cons_len h2 rfl, cons_find h3 rfl, fun g hg => ?_⟩
    rcases List.mem_cons.mp hg with rfl | hg
    · exact tame_tp k4
    · exact h4 g hg
  | case7 es k q r hn ih =>
    intro gs ch h
    unfold cGt at h
    split at h
    · exact (hn _ _ _ _ ‹_› ‹_›).elim
    · cases h
  | case8 x a1 a2 a3 a4 =>
    intro gs ch h
    unfold cGt at h
    split at h
    · exact (a1 rfl).elim
    · exact (a2 _ _ _ rfl).elim
    · exact (a3 _ _ _ _ _ rfl).elim
    · exact (a4 _ _ _ _ rfl).elim
    · cases h
theorem c_gs (G : Good n X ce) (hW : Flat W) {es : List Expr} {gs : List FG} {ch : List Nat} (h : cGs ce es = some (gs, ch)) : PGs X es (tGs X.K X.mw W ch gs) ∧ (assignEach es X.env).length = gs.length ∧ (assignEach es X.env).findIdx? (·.1) = none ∧ ∀ g ∈ gs, Tame g :=
  c_gt G hW (fun h => c_gt G hW (fun h => by cases h) h) h
theorem c_g (G : Good n X ce) (hW : Flat W) {t : Expr} {g : FG} {ch : List Nat} (h : cG ce t = some (g, ch)) : PG X t (tG X.K X.mw W ch g) ∧ (assignEach [t] X.env).map (·.2) = [assign t X.env] := by
  unfold cG at h
  split at h
  · obtain ⟨i, e1, e2⟩ := Option.map_eq_some_iff.mp h
    cases e2
    obtain ⟨k1, k2, k3⟩ := c_nm G e1
    exact ⟨d_gnm G.nd k1 k2 k3, rfl⟩
  · obtain ⟨q, e1, e2⟩ := Option.map_eq_some_iff.mp h
    cases e2
    obtain ⟨h1, h2, h3, h4⟩ := c_gs G hW e1
    exact ⟨d_gtp G.calm h4 h1 h2 h3, rfl⟩
  · cases h

/-! ### what is walked -/
def isTup : Expr → Bool
  | .Tuple .. => true
  | _ => false
def isFree (ce : CEnv) (x : Str) : Bool := isGl ce.sc x && (match ce.gl x with
  | some .free => true
  | _ => false)
theorem free_ok (G : Good n X ce) {x : Str} (h : isFree ce x = true) : Gl X x ∧ X.mg x = none := by
  unfold isFree at h
  rw [Bool.and_eq_true] at h
  refine ⟨G.gx h.1, ?_⟩
  have h2 := h.2
  split at h2
  · rename_i e; exact G.gl _ _ e
  · cases h2
inductive ItK where
  | rg1 (a : Expr) | rg2 (a b : Expr) | rg3 (a b c : Expr) | en (a : Expr) | zp (a b : Expr) | sq
def itK (ce : CEnv) (tg : Expr) : Expr → ItK
  | .Call (.Name x _) [a] [] _ => if x = "range" ∧ isFree ce "range" = true then .rg1 a else if x = "enumerate" ∧ isFree ce "enumerate" = true ∧ isTup tg = true then .en a else .sq
  | .Call (.Name x _) [a, b] [] _ => if x = "range" ∧ isFree ce "range" = true then .rg2 a b else if x = "zip" ∧ isFree ce "zip" = true ∧ isTup tg = true then .zp a b else .sq
  | .Call (.Name x _) [a, b, c] [] _ => if x = "range" ∧ isFree ce "range" = true then .rg3 a b c else .sq
  | _ => .sq
def cI (ce : CEnv) (f : Expr → Option FE) (tg it : Expr) : Option FI := match itK ce tg it with
  | .rg1 a => (cArgs f [a]).map iRg
  | .rg2 a b => (cArgs f [a, b]).map iRg
  | .rg3 a b c => (cArgs f [a, b, c]).map iRg
  | .en a => (cArgs f [a]).map iEn
  | .zp a b => (cArgs f [a, b]).map iZp
  | .sq => (f it).map iSeq
theorem itK_rg1 {tg it a : Expr} (h : itK ce tg it = .rg1 a) : ∃ p q, it = .Call (.Name "range" p) [a] [] q ∧ isFree ce "range" = true := by
  unfold itK at h
  repeat' split at h
  all_goals first | (cases h; done) | (rename_i e; cases h; rw [e.1]; exact ⟨_, _, rfl, e.2⟩)
theorem itK_rg2 {tg it a b : Expr} (h : itK ce tg it = .rg2 a b) : ∃ p q, it = .Call (.Name "range" p) [a, b] [] q ∧ isFree ce "range" = true := by
  unfold itK at h
  repeat' split at h
  all_goals first | (cases h; done) | (rename_i e; cases h; rw [e.1]; exact ⟨_, _, rfl, e.2⟩)
theorem itK_rg3 {tg it a b c : Expr} (h : itK ce tg it = .rg3 a b c) : ∃ p q, it = .Call (.Name "range" p) [a, b, c] [] q ∧ isFree ce "range" = true := by
  unfold itK at h
  repeat' split at h
  all_goals first | (cases h; done) | (rename_i e; cases h; rw [e.1]; exact ⟨_, _, rfl, e.2⟩)
theorem itK_en {tg it a : Expr} (h : itK ce tg it = .en a) : ∃ p q, it = .Call (.Name "enumerate" p) [a] [] q ∧ isFree ce "enumerate" = true ∧ isTup tg = true := by
  unfold itK at h
  repeat' split at h
  all_goals first | (cases h; done) | (rename_i e; cases h; rw [e.1]; exact ⟨_, _, rfl, e.2⟩)
theorem itK_zp {tg it a b : Expr} (h : itK ce tg it = .zp a b) : ∃ p q, it = .Call (.Name "zip" p) [a, b] [] q ∧ isFree ce "zip" = true ∧ isTup tg = true := by
  unfold itK at h
  repeat' split at h
  all_goals first | (cases h; done) | (rename_i e; cases h; rw [e.1]; exact ⟨_, _, rfl, e.2⟩)
theorem star1 {a : Expr} {env : PySem.Env} (h : noStar a = true) : starEach [a] env = [(false, eval a env)] := star_cons h
theorem c_i (G : Good n X ce) {f : Expr → Option FE} (hf : ∀ e fe, f e = some fe → PE X e (tE X.K X.mw W fe)) {tg it : Expr} {fi : FI} (h : cI ce f tg it = some fi) : PI X tg it (tI X.K X.mw W fi) := by
  unfold cI at h
  split at h
  · rename_i a e
    obtain ⟨p, q, rfl, hfr⟩ := itK_rg1 e
    obtain ⟨fa, e1, rfl⟩ := Option.map_eq_some_iff.mp h
    obtain ⟨q1, q2, q3⟩ := c_args hf e1
    rw [List.all_cons, Bool.and_eq_true] at q3
    obtain ⟨g1, g2⟩ := free_ok G hfr
    exact d_irg1 g1 g2 q1 q2 (star1 q3.1)
  · rename_i a b e
    obtain ⟨p, q, rfl, hfr⟩ := itK_rg2 e
    obtain ⟨fa, e1, rfl⟩ := Option.map_eq_some_iff.mp h
    obtain ⟨q1, q2, q3⟩ := c_args hf e1
    rw [List.all_cons, List.all_cons, Bool.and_eq_true, Bool.and_eq_true] at q3
    obtain ⟨g1, g2⟩ := free_ok G hfr
    exact d_irg2 g1 g2 q1 q2 (by rw [star_cons q3.1, star1 q3.2.1]) (star1 q3.2.1)
  · rename_i a b c e
    obtain ⟨p, q, rfl, hfr⟩ := itK_rg3 e
    obtain ⟨fa, e1, rfl⟩ := Option.map_eq_some_iff.mp h
    obtain ⟨q1, q2, q3⟩ := c_args hf e1
    rw [List.all_cons, Bool.and_eq_true] at q3
    obtain ⟨g1, g2⟩ := free_ok G hfr
    exact d_irg3 g1 g2 q1 q2 (star_cons q3.1) (nost_any q3.2)
  · rename_i a e
    obtain ⟨p, q, rfl, hfr, ht⟩ := itK_en e
    obtain ⟨fa, e1, rfl⟩ := Option.map_eq_some_iff.mp h
    obtain ⟨q1, q2, q3⟩ := c_args hf e1
    rw [List.all_cons, Bool.and_eq_true] at q3
    obtain ⟨g1, g2⟩ := free_ok G hfr
    cases tg <;> first | exact d_ien g1 g2 q1 (star1 q3.1) | cases ht
  · rename_i a b e
    obtain ⟨p, q, rfl, hfr, ht⟩ := itK_zp e
    obtain ⟨fa, e1, rfl⟩ := Option.map_eq_some_iff.mp h
    obtain ⟨q1, q2, q3⟩ := c_args hf e1
    rw [List.all_cons, List.all_cons, Bool.and_eq_true, Bool.and_eq_true] at q3
    obtain ⟨g1, g2⟩ := free_ok G hfr
    cases tg <;> first | exact d_izp g1 g2 q1 (star_cons q3.1) (nost_any (by rw [List.all_cons, q3.2.1]; rfl)) | cases ht
  · obtain ⟨fe, e1, rfl⟩ := Option.map_eq_some_iff.mp h
    exact d_iseq (hf _ _ e1)

/-! ### comprehensions -/
def ownOf (N : List Str) : List (Str × NameKind) → List (Str × Nat)
  | [] => []
  | (x, k) :: r => if k = .local ∨ k = .cell then (match ixOf N x with
    | some i => (x, i) :: ownOf N r
    | none => ownOf N r) else ownOf N r
def CEnv.blk (ce : CEnv) (scope : Scope) : CEnv := { ce with sc := relS scope ce.sc, st := fun x => decide (scope.names.lookup x = some .local) }
theorem good_blk (G : Good n X ce) {scope : Scope} (hk : scope.kind = .function) (s : Shared) (H : Hp) (C : Addr) (cl : List (Str × Addr)) (fp : List Addr) : Good n (X.blk s H scope (compEnvC scope cl C X.env) fp) (ce.blk scope) := by
  have hsc : (compEnvC scope cl C X.env).scope = relS scope ce.sc := by rw [← G.sc]; rfl
  refine ⟨G.N, G.nd, hsc, hk, fun x hx => ?_, G.calm, G.rm, fun x g hg => ?_⟩
  · have e : scope.names.lookup x = some .local := of_decide_eq_true hx
    have e2 : (relS scope ce.sc).names.lookup x = some .local := lookup_relS_keep (by decide) e
    refine ⟨.inl ?_, .inr ?_⟩
    · show (compEnvC scope cl C X.env).scope.names.lookup x = some .local
      rw [hsc]; exact e2
    · show (compEnvC scope cl C X.env).scope.names.lookup x = some .local
      rw [hsc]; exact e2
  · have := G.gl x g hg
    cases g with
    | cst d => exact this
    | free => exact this
    | fn dfl shs => exact this
    | mt c m dfl shs => exact this
    | mk flds => exact this
def cIfs (t : Expr → Option FT) : List Expr → Option FT
  | [] => some tYes'
  | [c] => t c
  | _ => none
def cLc (R : RC) (ce : CEnv) (elt : Expr) (gens : List Comprehension) (scope : Scope) : Option (FE × List (Str × Nat)) := match gens with
  | [⟨tg, it, ifs, asy⟩] =>
    if asy = 0 ∧ scope.kind = .function ∧ blkC ce.N ce.sc scope (ownOf ce.N scope.names) = true ∧ noSet it = true then
      (match cI ce (R ce).1 tg it, cG (ce.blk scope) tg, cIfs (R (ce.blk scope)).2 ifs, (R (ce.blk scope)).1 elt with
      | some fi, some (g, ch), some t, some e => if ch.all (fun j => ((ownOf ce.N scope.names).map (·.2)).contains j) = true then some (eLc ((ownOf ce.N scope.names).map (·.2)) fi g t e, ownOf ce.N scope.names) else none
      | _, _, _, _ => none)
    else none
  | _ => none
/-- two fors -/
def cLc2 (R : RC) (ce : CEnv) (elt : Expr) (gens : List Comprehension) (scope : Scope) : Option (FE × List (Str × Nat)) := match gens with
  | [⟨tg, it, ifs, asy⟩, ⟨tg1, it1, ifs1, asy1⟩] =>
    if asy = 0 ∧ asy1 = 0 ∧ scope.kind = .function ∧ blkC ce.N ce.sc scope (ownOf ce.N scope.names) = true ∧ noSet it = true ∧ noSet it1 = true then
      (match cI ce (R ce).1 tg it, cG (ce.blk scope) tg, cIfs (R (ce.blk scope)).2 ifs, cI (ce.blk scope) (R (ce.blk scope)).1 tg1 it1 with
      | some fi, some (g, ch), some t, some fi1 => (match cG (ce.blk scope) tg1, cIfs (R (ce.blk scope)).2 ifs1, (R (ce.blk scope)).1 elt with
        | some (g1, ch1), some t1, some e => if ch.all (fun j => ((ownOf ce.N scope.names).map (·.2)).contains j) = true ∧ ch1.all (fun j => ((ownOf ce.N scope.names).map (·.2)).contains j) = true then some (eLc2 ((ownOf ce.N scope.names).map (·.2)) fi g t fi1 ch1 g1 t1 e, ownOf ce.N scope.names) else none
        | _, _, _ => none)
      | _, _, _, _ => none)
    else none
  | _ => none
/-- a compiler that tells the truth -/
def Snd (n : Nat) (R : RC) : Prop := ∀ (ce : CEnv) (X : Cx) (W : WX), Good n X ce → Takes X W → (∀ e fe, (R ce).1 e = some fe → PE X e (tE X.K X.mw W fe)) ∧ ∀ e ft, (R ce).2 e = some ft → PT X e (tT X.K X.mw W ft)
theorem takes0 {X : Cx} : Takes X W0 := fun _ _ x => by
  obtain ⟨a, B, sI, pins, σ, H, cls, d, e, I, nb, up, sky, na, os, ag, w⟩ := x
  exact False.elim w
theorem c_ifs {t : Expr → Option FT} (ht : ∀ e ft, t e = some ft → PT X e (tT X.K X.mw W ft)) {ifs : List Expr} {ft : FT} (h : cIfs t ifs = some ft) : PTs X ifs (tT X.K X.mw W ft) := by
  unfold cIfs at h
  split at h
  · cases h
    refine ⟨fun pins s σ H Q I q => pts_nil.run pins s σ H Q I ?_⟩
    obtain ⟨env, S, o, ⟨rfl, re, rs⟩, p⟩ := q
    exact p.here rs
  · exact pts_one (ht _ _ h)
  · cases h
/-- the parts of a comprehension -/
theorem lc_parts {R : RC} (hR : Snd n R) (G : Good n X ce) (tk : Takes X W) {elt : Expr} {gens : List Comprehension} {scope : Scope} {fe : FE} {own : List (Str × Nat)} (h : cLc R ce elt gens scope = some (fe, own)) :
    ∃ tg it ifs fi g ch t e, gens = [⟨tg, it, ifs, 0⟩] ∧ fe = eLc (own.map (·.2)) fi g t e ∧ (∀ j ∈ ch, j ∈ own.map (·.2)) ∧ BlkOk X.N X.env.scope scope own ∧ PI X tg it (tI X.K X.mw W fi) ∧
      (∀ s H C cl fp, PG (X.blk s H scope (compEnvC scope cl C X.env) fp) tg (tG X.K X.mw W0 ch g)) ∧ (∀ s H C cl fp, PTs (X.blk s H scope (compEnvC scope cl C X.env) fp) ifs (tT X.K X.mw W0 t)) ∧
      (∀ s H C cl fp, PE (X.blk s H scope (compEnvC scope cl C X.env) fp) elt (tE X.K X.mw W0 e)) ∧ ∀ x, foldedSetIterable it X.env x = pure x := by
  unfold cLc at h
  split at h
  · rename_i tg it ifs asy
    split at h
    · rename_i hc
      split at h
      · rename_i fi g ch t e e1 e2 e3 e4
        split at h
        · rename_i hch
          cases h
          obtain ⟨ha, hk, hb, hs⟩ := hc
          subst ha
          have hB : BlkOk X.N X.env.scope scope (ownOf ce.N scope.names) := by rw [G.N, G.sc]; exact blkOk_by hb
          refine ⟨tg, it, ifs, fi, g, ch, t, e, rfl, rfl, fun j hj => ?_, hB, c_i G (hR ce X W G tk).1 e1, fun s H C cl fp => ?_, fun s H C cl fp => ?_, fun s H C cl fp => ?_, noSet_fold hs X.env⟩
          · exact List.contains_iff_mem.mp (List.all_eq_true.mp hch j hj)
          · exact (c_g (good_blk G hk s H C cl fp) flat0 e2).1
          · exact c_ifs (hR _ _ _ (good_blk G hk s H C cl fp) takes0).2 e3
          · exact (hR _ _ _ (good_blk G hk s H C cl fp) takes0).1 _ _ e4
        · cases h
      · cases h
    · cases h
  · cases h
theorem c_lc {R : RC} (hR : Snd n R) (G : Good n X ce) (tk : Takes X W) {elt : Expr} {gens : List Comprehension} {scope : Scope} {fe : FE} {own : List (Str × Nat)} (h : cLc R ce elt gens scope = some (fe, own)) :
    PE X (.ListComp elt gens scope pos) (tE X.K X.mw W fe) := by
  obtain ⟨tg, it, ifs, fi, g, ch, t, e, rfl, rfl, hch, hB, h1, h2, h3, h4, h5⟩ := lc_parts hR G tk h
  exact PE.imp (pe_lc G.calm G.nd h1 hB h2 h3 h4 h5) fun σ H Q q => lc_read hch q
theorem lc2_parts {R : RC} (hR : Snd n R) (G : Good n X ce) (tk : Takes X W) {elt : Expr} {gens : List Comprehension} {scope : Scope} {fe : FE} {own : List (Str × Nat)} (h : cLc2 R ce elt gens scope = some (fe, own)) :
    ∃ tg it ifs tg1 it1 ifs1 fi g ch t fi1 g1 ch1 t1 e, gens = [⟨tg, it, ifs, 0⟩, ⟨tg1, it1, ifs1, 0⟩] ∧ fe = eLc2 (own.map (·.2)) fi g t fi1 ch1 g1 t1 e ∧ (∀ j ∈ ch, j ∈ own.map (·.2)) ∧ (∀ j ∈ ch1, j ∈ own.map (·.2)) ∧ BlkOk X.N X.env.scope scope own ∧ PI X tg it (tI X.K X.mw W fi) ∧
      (∀ s H C cl fp, PG (X.blk s H scope (compEnvC scope cl C X.env) fp) tg (tG X.K X.mw W0 ch g)) ∧ (∀ s H C cl fp, PTs (X.blk s H scope (compEnvC scope cl C X.env) fp) ifs (tT X.K X.mw W0 t)) ∧
      (∀ s H C cl fp, PI (X.blk s H scope (compEnvC scope cl C X.env) fp) tg1 it1 (tI X.K X.mw W0 fi1)) ∧ (∀ s H C cl fp, PG (X.blk s H scope (compEnvC scope cl C X.env) fp) tg1 (tG X.K X.mw W0 ch1 g1)) ∧ (∀ s H C cl fp, PTs (X.blk s H scope (compEnvC scope cl C X.env) fp) ifs1 (tT X.K X.mw W0 t1)) ∧
      (∀ s H C cl fp, PE (X.blk s H scope (compEnvC scope cl C X.env) fp) elt (tE X.K X.mw W0 e)) ∧ (∀ x, foldedSetIterable it X.env x = pure x) ∧ ∀ env x, foldedSetIterable it1 env x = pure x := by
  unfold cLc2 at h
  split at h
  · rename_i tg it ifs asy tg1 it1 ifs1 asy1
    split at h
    · rename_i hc
      split at h
      · rename_i fi g ch t fi1 e1 e2 e3 e4
        split at h
        · rename_i g1 ch1 t1 e e5 e6 e7
          split at h
          · rename_i hch
            cases h
            obtain ⟨ha, ha1, hk, hb, hs, hs1⟩ := hc
            subst ha
            subst ha1
            have hB : BlkOk X.N X.env.scope scope (ownOf ce.N scope.names) := by rw [G.N, G.sc]; exact blkOk_by hb
            refine ⟨tg, it, ifs, tg1, it1, ifs1, fi, g, ch, t, fi1, g1, ch1, t1, e, rfl, rfl, fun j hj => ?_, fun j hj => ?_, hB, c_i G (hR ce X W G tk).1 e1, fun s H C cl fp => ?_, fun s H C cl fp => ?_, fun s H C cl fp => ?_, fun s H C cl fp => ?_, fun s H C cl fp => ?_, fun s H C cl fp => ?_, noSet_fold hs X.env, fun env x => noSet_fold hs1 env x⟩
            · exact List.contains_iff_mem.mp (List.all_eq_true.mp hch.1 j hj)
            · exact List.contains_iff_mem.mp (List.all_eq_true.mp hch.2 j hj)
            · exact (c_g (good_blk G hk s H C cl fp) flat0 e2).1
            · exact c_ifs (hR _ _ _ (good_blk G hk s H C cl fp) takes0).2 e3
            · exact c_i (good_blk G hk s H C cl fp) (hR _ _ _ (good_blk G hk s H C cl fp) takes0).1 e4
            · exact (c_g (good_blk G hk s H C cl fp) flat0 e5).1
            · exact c_ifs (hR _ _ _ (good_blk G hk s H C cl fp) takes0).2 e6
            · exact (hR _ _ _ (good_blk G hk s H C cl fp) takes0).1 _ _ e7
          · cases h
        · cases h
      · cases h
    · cases h
  · cases h
theorem c_lc2 {R : RC} (hR : Snd n R) (G : Good n X ce) (tk : Takes X W) {elt : Expr} {gens : List Comprehension} {scope : Scope} {fe : FE} {own : List (Str × Nat)} (h : cLc2 R ce elt gens scope = some (fe, own)) :
    PE X (.ListComp elt gens scope pos) (tE X.K X.mw W fe) := by
  obtain ⟨tg, it, ifs, tg1, it1, ifs1, fi, g, ch, t, fi1, g1, ch1, t1, e, rfl, rfl, hch, hch1, hB, h1, h2, h3, h4, h5, h6, h7, h8, h9⟩ := lc2_parts hR G tk h
  exact PE.imp (pe_lc2 (vs1 := ch1) G.calm G.nd h1 hB hch1 h2 h3 h4 h5 h6 h7 h8 h9) fun σ H Q q => lc2_read hch (fun _ h => h) q
theorem c_setlc2 {R : RC} (hR : Snd n R) (G : Good n X ce) (tk : Takes X W) {elt : Expr} {gens : List Comprehension} {scope : Scope} {fe : FE} {own : List (Str × Nat)} {i : Nat} {y : Str} {py spos : Pos} (h : cLc2 R ce elt gens scope = some (fe, own))
    (hy : X.N[i]? = some y) (hyl : X.env.scope.names.lookup y = some .local) (hsw : swapsWith (.ListComp elt gens scope pos) (some (.Name y py)) spos.line X.env = pure true) :
    PS X (.Assign [.Name y py] (.ListComp elt gens scope pos) spos) (tS X.K X.mw W (sAsg fe (gNm i))) := by
  obtain ⟨tg, it, ifs, tg1, it1, ifs1, fi, g, ch, t, fi1, g1, ch1, t1, e, rfl, rfl, hch, hch1, hB, h1, h2, h3, h4, h5, h6, h7, h8, h9⟩ := lc2_parts hR G tk h
  refine PS.imp (ps_setLc2 (vs1 := ch1) G.calm G.nd hy hyl hsw h1 hB hch1 h2 h3 h4 h5 h6 h7 h8 h9) fun D' σ H q => ?_
  refine lc2_read hch (fun _ h => h) (Q := fun x H1 => D'.nx (σ.set i (some x)) H1) ?_
  obtain ⟨env, S, o, ⟨rfl, re, rs⟩, p⟩ := q
  exact ⟨env, S, o, ⟨rfl, re, rs⟩, (Post.bind p).imp fun d S1 o1 l1 rs1 p1 v r => (Post.here p1 rs1) _ ((re.up l1).set i r)⟩
/-- name = [..] where the model stores within -/
theorem c_setlc {R : RC} (hR : Snd n R) (G : Good n X ce) (tk : Takes X W) {elt : Expr} {gens : List Comprehension} {scope : Scope} {fe : FE} {own : List (Str × Nat)} {i : Nat} {y : Str} {py spos : Pos} (h : cLc R ce elt gens scope = some (fe, own))
    (hy : X.N[i]? = some y) (hyl : X.env.scope.names.lookup y = some .local) (hsw : swapsWith (.ListComp elt gens scope pos) (some (.Name y py)) spos.line X.env = pure true) :
    PS X (.Assign [.Name y py] (.ListComp elt gens scope pos) spos) (tS X.K X.mw W (sAsg fe (gNm i))) := by
  obtain ⟨tg, it, ifs, fi, g, ch, t, e, rfl, rfl, hch, hB, h1, h2, h3, h4, h5⟩ := lc_parts hR G tk h
  refine PS.imp (ps_setLc G.calm G.nd hy hyl hsw h1 hB h2 h3 h4 h5) fun D' σ H q => ?_
  refine lc_read hch (Q := fun x H1 => D'.nx (σ.set i (some x)) H1) ?_
  obtain ⟨env, S, o, ⟨rfl, re, rs⟩, p⟩ := q
  exact ⟨env, S, o, ⟨rfl, re, rs⟩, (Post.bind p).imp fun d S1 o1 l1 rs1 p1 v r => (Post.here p1 rs1) _ ((re.up l1).set i r)⟩
end
end PV

set_option Elab.async false
set_option linter.all false
set_option maxRecDepth 100000
set_option maxHeartbeats 3999000
namespace PV
open L2 PyProof.Rows PySem PySem.Spec

/-! ### expressions and tests, one step -/
def cOpt (f : Expr → Option FE) : Option Expr → Option FO
  | none => some oNone
  | some e => (f e).map oSome
def isSlice : Expr → Bool
  | .Slice .. => true
  | _ => false
def cSub (f : Expr → Option FE) (a : Expr) : Expr → Option FE
  | .Slice lo hi none _ => (match f a, cOpt f lo, cOpt f hi with
    | some fa, some fl, some fh => some (eSl fa fl fh)
    | _, _, _ => none)
  | .Slice none none (some k) _ => (match f a, f k with
    | some fa, some fk => some (eRev fa fk)
    | _, _ => none)
  | b => if isSlice b = true then none else (match f a, f b with
    | some fa, some fb => some (eBin ixDD fa fb)
    | _, _ => none)
def cUn (f : Expr → Option FE) : UnaryOp → Expr → Option FE
  | .USub, a => (f a).map (eUn negD)
  | .Not, a => (f a).map eNot
  | _, _ => none
def cConst : Const → Option FE
  | .int i => some (eC (.int i))
  | .bool b => some (eC (.bl b))
  | .none => some (eC .non)
  | .str x => some (eC (.str x))
  | _ => none
def cCall (ce : CEnv) (f : Expr → Option FE) (fn : Expr) (es : List Expr) (ks : List Keyword) (pos : Pos) : Option FE := match fn with
  | .Name x _ => cCallN ce f x es ks
  | .Attribute o m apos => (match mtOf m with
    | some _ => (match ks with
      | [] => cMeth f o m apos pos es
      | _ => none)
    | none => cMethI ce f o m apos pos es ks)
  | _ => none
def cE1 (R : RC) (ce : CEnv) : Expr → Option FE
  | .Constant c _ _ => cConst c
  | .Name x _ => cName ce x
  | .BinOp a op b _ => (match binOf op, (R ce).1 a, (R ce).1 b with
    | some g, some fa, some fb => some (eBin g fa fb)
    | _, _, _ => none)
  | .UnaryOp op a _ => cUn (R ce).1 op a
  | .BoolOp op es _ => cBoolE (R ce).1 op es
  | .Compare a ops bs _ => cCmp (R ce).1 a ops bs
  | .IfExp c a b _ => (match (R ce).2 c, (R ce).1 a, (R ce).1 b with
    | some t, some fa, some fb => some (eIfx t fa fb)
    | _, _, _ => none)
  | .Tuple es _ _ => if es.length ≤ 1000 then (if es.all noStar = true then (cArgs (R ce).1 es).map eTup else (cArgsS (R ce).1 es).map eTupS) else none
  | .List es _ => if es.length ≤ 1000 then (if es.all noStar = true then (cArgs (R ce).1 es).map eLst else (cArgsS (R ce).1 es).map eLstS) else none
  | .Subscript a b _ => cSub (R ce).1 a b
  | .Call fn es ks pos => cCall ce (R ce).1 fn es ks pos
  | .ListComp elt gens scope _ => (match gens with
    | [_, _] => (cLc2 R ce elt gens scope).map (·.1)
    | _ => (cLc R ce elt gens scope).map (·.1))
  | .Attribute o x _ => cFld ce (R ce).1 o x
  | .Dict [] [] _ => some eDn
  | _ => none
def plainT : Expr → Bool
  | .UnaryOp .Not .. => false
  | .BoolOp .. => false
  | .IfExp .. => false
  | .Compare .. => false
  | _ => true
def cT1 (R : RC) (ce : CEnv) (e : Expr) : Option FT := match e with
  | .UnaryOp .Not a _ => ((R ce).2 a).map tNotF
  | .BoolOp op es _ => cBoolT (R ce).2 op es
  | .Compare a ops bs _ => (cCmp (R ce).1 a ops bs).map tB'
  | e => if plainT e = true then ((R ce).1 e).map tVal else none
def comp : Nat → RC
  | 0 => fun _ => (fun _ => none, fun _ => none)
  | k + 1 => fun ce => (cE1 (comp k) ce, cT1 (comp k) ce)
section
variable {X : Cx} {W : WX} {n : Nat} {ce : CEnv} {pos : Pos}
theorem plain_ok {e : Expr} (h : plainT e = true) (env : PySem.Env) (wh : Sem Value) : isTrue e env wh = (do let v ← wh; standAt e.pos; holding [v] (truthy v)) := by
  cases e with
  | UnaryOp op a p => cases op <;> first | rfl | cases h
  | _ => first | rfl | cases h
theorem c_opt {f : Expr → Option FE} (hf : ∀ e fe, f e = some fe → PE X e (tE X.K X.mw W fe)) {o : Option Expr} {fo : FO} (h : cOpt f o = some fo) : PO X o (tOi X.K X.mw W fo) := by
  cases o with
  | none => cases h; exact d_onone
  | some e =>
    obtain ⟨fe, e1, rfl⟩ := Option.map_eq_some_iff.mp (show (f e).map oSome = some fo from h)
    exact d_osome (hf _ _ e1)
theorem plainIx {b : Expr} (h : isSlice b = false) : PlainIx b := by
  intro o i
  cases b <;> first | rfl | cases h
theorem c_sub (hu : X.A.units + 65 < cLine) {f : Expr → Option FE} (hf : ∀ e fe, f e = some fe → PE X e (tE X.K X.mw W fe)) {a b : Expr} {fe : FE} (h : cSub f a b = some fe) : PE X (.Subscript a b pos) (tE X.K X.mw W fe) := by
  unfold cSub at h
  split at h
  · split at h
    · rename_i fa fl fh e1 e2 e3
      cases h
      exact d_sl (hf _ _ e1) (c_opt hf e2) (c_opt hf e3)
    · cases h
  · split at h
    · rename_i fa fk e1 e2
      cases h
      exact d_rev (hf _ _ e1) (hf _ _ e2)
    · cases h
  · split at h
    · cases h
    · rename_i hs
      split at h
      · rename_i fa fb e1 e2
        cases h
        exact d_ix (hf _ _ e1) (hf _ _ e2) (plainIx (by simpa using hs)) hu
      · cases h
theorem c_un {f : Expr → Option FE} (hf : ∀ e fe, f e = some fe → PE X e (tE X.K X.mw W fe)) {op : UnaryOp} {a : Expr} {fe : FE} (h : cUn f op a = some fe) : PE X (.UnaryOp op a pos) (tE X.K X.mw W fe) := by
  unfold cUn at h
  split at h
  · obtain ⟨fa, e1, rfl⟩ := Option.map_eq_some_iff.mp h
    exact d_un und_neg (hf _ _ e1)
  · obtain ⟨fa, e1, rfl⟩ := Option.map_eq_some_iff.mp h
    exact d_not (hf _ _ e1)
  · cases h
theorem c_const {c : Const} {k : Nat} {fe : FE} (h : cConst c = some fe) : PE X (.Constant c k pos) (tE X.K X.mw W fe) := by
  unfold cConst at h
  split at h
  · cases h; exact d_c pe_int fun _ => .int _
  · cases h; exact d_c pe_bl fun _ => .bl _
  · cases h; exact d_c pe_non fun _ => .non
  · cases h; exact d_c pe_str fun _ => .str _
  · cases h
theorem le_line {k : Nat} (h : k ≤ 1000) : k ≤ sizeLine := Nat.le_trans h (by decide)
theorem c_e1 {R : RC} (hR : Snd n R) (G : Good n X ce) (tk : Takes X W) {e : Expr} {fe : FE} (h : cE1 R ce e = some fe) : PE X e (tE X.K X.mw W fe) := by
  obtain ⟨hf, ht⟩ := hR ce X W G tk
  unfold cE1 at h
  split at h
  · exact c_const h
  · exact c_name G h
  · split at h
    · rename_i g fa fb e1 e2 e3
      cases h
      exact d_bin (c_bin e1) (hf _ _ e2) (hf _ _ e3)
    · cases h
  · exact c_un hf h
  · exact c_boolE hf h
  · exact (c_cmpE G hf h).1
  · split at h
    · rename_i t fa fb e1 e2 e3
      cases h
      exact d_ifx (ht _ _ e1) (hf _ _ e2) (hf _ _ e3)
    · cases h
  · split at h
    · rename_i hl
      split at h
      · obtain ⟨fa, e1, rfl⟩ := Option.map_eq_some_iff.mp h
        obtain ⟨q1, q2, _⟩ := c_args hf e1
        exact d_tup q1 q2 (le_line hl)
      · obtain ⟨fa, e1, rfl⟩ := Option.map_eq_some_iff.mp h
        exact d_tupS (c_argsS hf e1)
    · cases h
  · split at h
    · rename_i hl
      split at h
      · obtain ⟨fa, e1, rfl⟩ := Option.map_eq_some_iff.mp h
        obtain ⟨q1, q2, _⟩ := c_args hf e1
        exact d_lst q1 q2 (le_line hl)
      · obtain ⟨fa, e1, rfl⟩ := Option.map_eq_some_iff.mp h
        exact d_lstS (c_argsS hf e1)
    · cases h
  · exact c_sub (by have := G.rm.un; omega) hf h
  · unfold cCall at h
    split at h
    · exact c_callN G tk hf h
    · split at h
      · split at h
        · exact c_meth hf h
        · cases h
      · exact c_methI G tk hf h
    · cases h
  · split at h
    · obtain ⟨q, e1, rfl⟩ := Option.map_eq_some_iff.mp h
      exact c_lc2 hR G tk (own := q.2) e1
    · obtain ⟨q, e1, rfl⟩ := Option.map_eq_some_iff.mp h
      exact c_lc hR G tk (own := q.2) e1
  · exact c_fld G hf h
  · cases h; exact d_dnew
  · cases h
theorem c_t1 {R : RC} (hR : Snd n R) (G : Good n X ce) (tk : Takes X W) {e : Expr} {ft : FT} (h : cT1 R ce e = some ft) : PT X e (tT X.K X.mw W ft) := by
  obtain ⟨hf, ht⟩ := hR ce X W G tk
  unfold cT1 at h
  split at h
  · obtain ⟨fa, e1, rfl⟩ := Option.map_eq_some_iff.mp h
    exact d_tnot (ht _ _ e1)
  · exact (c_boolT ht h).pt
  · obtain ⟨fa, e1, rfl⟩ := Option.map_eq_some_iff.mp h
    exact (c_cmpE G hf e1).2
  · split at h
    · rename_i hp
      obtain ⟨fa, e1, rfl⟩ := Option.map_eq_some_iff.mp h
      exact d_tval (hf _ _ e1) (plain_ok hp X.env)
    · cases h
theorem comp_snd (n : Nat) : ∀ k, Snd n (comp k)
  | 0 => fun ce X W G tk => ⟨fun e fe h => (by cases h), fun e ft h => (by cases h)⟩
  | k + 1 => fun ce X W G tk => ⟨fun e fe h => c_e1 (comp_snd n k) G tk h, fun e ft h => c_t1 (comp_snd n k) G tk h⟩

/-! ### statements -/
def sStk : FS := fun _ _ => .stk
def noComp : Expr → Bool
  | .ListComp .. => false
  | .SetComp .. => false
  | .DictComp .. => false
  | _ => true
theorem noComp_sw {e : Expr} (h : noComp e = true) (t : Option Expr) (l : Nat) (env : PySem.Env) : swapsWith e t l env = pure false := by
  cases e <;> first | rfl | cases h
/-- both sides written, two plain local names on one line: the stores go from the right -/
def parB (sc : Scope) (x y : Str) (px py : Pos) (a b : Expr) : Bool :=
  decide (sc.names.lookup x = some .local) && decide (sc.names.lookup y = some .local) && (py.line == px.line) && !(x == y) && noStar a && noStar b && !([a, b].all (foldedForSure 8)) && !([a, b].all (constantsAlone 8))
theorem par_ok (G : Good n X ce) {x y : Str} {px py pt pt2 : Pos} {kt k2 : Nat} {a b : Expr} (h : parB ce.sc x y px py a b = true) :
    swappedStores [.Tuple [.Name x px, .Name y py] kt pt] (.Tuple [a, b] k2 pt2) X.env = pure (some [x, y]) := by
  unfold parB at h
  simp only [Bool.and_eq_true, decide_eq_true_eq, Bool.not_eq_true'] at h
  obtain ⟨⟨⟨⟨⟨⟨⟨h1, h2⟩, h3⟩, h4⟩, h5⟩, h6⟩, h7⟩, h8⟩ := h
  have hb : X.env.blockKind = .function := by unfold PySem.Env.blockKind; rw [G.sc, G.kind]; rfl
  have kx : X.env.kindOf x = some .local := by show X.env.scope.names.lookup x = _; rw [G.sc]; exact h1
  have ky : X.env.kindOf y = some .local := by show X.env.scope.names.lookup y = _; rw [G.sc]; exact h2
  have hxy : x ≠ y := fun e => by rw [e] at h4; simp at h4
  have hd : [x, y].eraseDups.length = 2 := by
    have : (y == x) = false := by rw [beq_eq_false_iff_ne]; exact fun e => hxy e.symm
    simp [List.eraseDups_cons, this]
  unfold swappedStores
  simp only [List.length_cons, List.length_nil, hb, h7, h8, kx, ky, h3, List.filterMap_cons, List.filterMap_nil, List.head?_cons, Option.map_some, Option.getD_some, Expr.pos]
  simp [hd]
  intro h
  rcases h with h | h
  · exfalso
    cases a <;> first | exact absurd h Bool.false_ne_true | exact absurd h5 Bool.false_ne_true
  · exfalso
    cases b <;> first | exact absurd h Bool.false_ne_true | exact absurd h6 Bool.false_ne_true
def parB3 (sc : Scope) (x y z : Str) (px py pz : Pos) (a b c : Expr) : Bool :=
  decide (sc.names.lookup x = some .local) && decide (sc.names.lookup y = some .local) && decide (sc.names.lookup z = some .local) && (py.line == px.line) && (pz.line == px.line) && !(x == y) && !(x == z) && !(y == z) && noStar a && noStar b && noStar c && !([a, b, c].all (foldedForSure 8)) && !([a, b, c].all (constantsAlone 8))
theorem par3_ok (G : Good n X ce) {x y z : Str} {px py pz pt pt2 : Pos} {kt k2 : Nat} {a b c : Expr} (h : parB3 ce.sc x y z px py pz a b c = true) :
    swappedStores [.Tuple [.Name x px, .Name y py, .Name z pz] kt pt] (.Tuple [a, b, c] k2 pt2) X.env = pure (some [x, y, z]) := by
  unfold parB3 at h
  simp only [Bool.and_eq_true, decide_eq_true_eq, Bool.not_eq_true'] at h
  obtain ⟨⟨⟨⟨⟨⟨⟨⟨⟨⟨⟨⟨h1, h2⟩, h3⟩, l1⟩, l2⟩, n1⟩, n2⟩, n3⟩, s1⟩, s2⟩, s3⟩, h7⟩, h8⟩ := h
  have hb : X.env.blockKind = .function := by unfold PySem.Env.blockKind; rw [G.sc, G.kind]; rfl
  have kx : X.env.kindOf x = some .local := by show X.env.scope.names.lookup x = _; rw [G.sc]; exact h1
  have ky : X.env.kindOf y = some .local := by show X.env.scope.names.lookup y = _; rw [G.sc]; exact h2
  have kz : X.env.kindOf z = some .local := by show X.env.scope.names.lookup z = _; rw [G.sc]; exact h3
  have hxy : x ≠ y := fun e => by rw [e] at n1; simp at n1
  have hxz : x ≠ z := fun e => by rw [e] at n2; simp at n2
  have hyz : y ≠ z := fun e => by rw [e] at n3; simp at n3
  have hd : [x, y, z].eraseDups.length = 3 := by
    have e1 : (y == x) = false := by rw [beq_eq_false_iff_ne]; exact fun e => hxy e.symm
    have e2 : (z == x) = false := by rw [beq_eq_false_iff_ne]; exact fun e => hxz e.symm
    have e3 : (z == y) = false := by rw [beq_eq_false_iff_ne]; exact fun e => hyz e.symm
    simp [List.eraseDups_cons, e1, e2, e3]
  unfold swappedStores
  simp only [List.length_cons, List.length_nil, hb, h7, h8, kx, ky, kz, l1, l2, List.filterMap_cons, List.filterMap_nil, List.head?_cons, Option.map_some, Option.getD_some, Expr.pos]
  simp [hd]
  intro h
  rcases h with h | h | h
  · exfalso
    cases a <;> first | exact absurd h Bool.false_ne_true | exact absurd s1 Bool.false_ne_true
  · exfalso
    cases b <;> first | exact absurd h Bool.false_ne_true | exact absurd s2 Bool.false_ne_true
  · exfalso
    cases c <;> first | exact absurd h Bool.false_ne_true | exact absurd s3 Bool.false_ne_true
end
end PV

set_option Elab.async false
set_option linter.all false
set_option maxRecDepth 100000
set_option maxHeartbeats 3999000
namespace PV
open L2 PyProof.Rows PySem PySem.Spec

def augOf : Operator → Option (D → D → Sto → PR)
  | .Add => some iaddD
  | .Sub => some subD
  | .Mult => some imulD
  | _ => none
/-- y = [..]: stored within (true) or behind (false) -/
def swB (sc : Scope) (y : Str) (py vpos : Pos) (scope : Scope) : Bool :=
  decide (sc.names.lookup y = some .local) && (py.line == vpos.line) && !(scope.names.any fun (n, k) => n == y && (k == .local || k == .cell))
def cAsgN (R : RC) (ce : CEnv) (x : Str) (px : Pos) (v : Expr) : Option FS := match cNm ce x with
  | none => none
  | some i => (match v with
    | .ListComp elt gens scope vpos => (match gens with
      | [_, _] => (cLc2 R ce elt gens scope).map fun p => sAsg p.1 (gNm i)
      | _ => (cLc R ce elt gens scope).map fun p => sAsg p.1 (gNm i))
    | e => if noComp e = true then ((R ce).1 e).map fun f => sAsg f (gNm i) else none)
inductive Par where
  | two (x : Str) (px : Pos) (y : Str) (py : Pos) (a b : Expr)
  | three (x : Str) (px : Pos) (y : Str) (py : Pos) (z : Str) (pz : Pos) (a b c : Expr)
def par2 (sc : Scope) (ts : List Expr) (v : Expr) : Option Par := match ts, v with
  | [.Name x px, .Name y py], .Tuple [a, b] _ _ => if parB sc x y px py a b = true then some (.two x px y py a b) else none
  | [.Name x px, .Name y py, .Name z pz], .Tuple [a, b, c] _ _ => if parB3 sc x y z px py pz a b c = true then some (.three x px y py z pz a b c) else none
  | _, _ => none
/-- no tuple is exchanged -/
def swNo (v : Expr) : Bool := match v with
  | .Tuple vs _ _ => vs.all (foldedForSure 8) && !(vs.any fun | .Starred .. => true | _ => false)
  | _ => true
/-- the first of two names is not a plain local one: nothing is exchanged -/
def celB (sc : Scope) (ts : List Expr) (v : Expr) : Bool := match ts, v with
  | [.Name x _, .Name _ _], .Tuple [_, _] _ _ => !(sc.names.lookup x == some .local)
  | _, _ => false
/-- a target that is no name -/
def attB (ts : List Expr) : Bool := ts.any fun | .Attribute .. => true | _ => false
def cAsgT (R : RC) (ce : CEnv) (ts : List Expr) (v : Expr) : Option FS := match par2 ce.sc ts v with
  | some (.two x _ y _ a b) => (match ixOf ce.N x, ixOf ce.N y, cArgs (R ce).1 [a, b] with
    | some i, some j, some fa => some (sPar i j fa)
    | _, _, _ => none)
  | some (.three x _ y _ z _ a b c) => (match ixOf ce.N x, ixOf ce.N y, ixOf ce.N z, cArgs (R ce).1 [a, b, c] with
    | some i, some j, some l, some fa => some (sPar3 i j l fa)
    | _, _, _, _ => none)
  | none => if (isTup v = false ∨ celB ce.sc ts v = true ∨ attB ts = true) ∧ noComp v = true then (match (R ce).1 v, cGs ce ts with
    | some f, some (gs, _) => some (sAsg f (gTp gs))
    | _, _ => none) else none
def cS1 (R : RC) (RS' : CEnv → List Stmt → Option FS) (ce : CEnv) : Stmt → Option FS
  | .Pass _ => some sNil
  | .Break _ => some sBrk
  | .Continue _ => some sCnt
  | .Expr e _ => if noComp e = true then ((R ce).1 e).map sExpr else none
  | .Return none _ => some sRetN
  | .Return (some e) _ => ((R ce).1 e).map sRet
  | .If c a b _ => (match (R ce).2 c, RS' ce a, RS' ce b with
    | some t, some f, some g => some (sIf t f g)
    | _, _, _ => none)
  | .Assign [.Name x px] v _ => cAsgN R ce x px v
  | .Assign [.Tuple ts _ _] v _ => cAsgT R ce ts v
  | .Assign [.Subscript o i _] v _ => if noComp v = true ∧ isSlice i = false then (match (R ce).1 v, (R ce).1 o, (R ce).1 i with
    | some f, some fo, some fi => some (sAsg f (gSb fo fi))
    | _, _, _ => none) else none
  | .Assign [.Attribute (.Name x _) f _] v _ => if noComp v = true then (match (R ce).1 v, cGa ce x f with
    | some fv, some (cs, i) => some (sAsg fv (gFl cs f (eVar i)))
    | _, _ => none) else none
  | .AugAssign (.Name x _) op e _ => (match cNm ce x, augOf op, (R ce).1 e with
    | some i, some g, some f => some (sAug i g f)
    | _, _, _ => none)
  | .AugAssign (.Subscript o i _) op e _ => if isSlice i = false then (match augOf op, (R ce).1 o, (R ce).1 i, (R ce).1 e with
    | some g, some fo, some fi, some fe => some (sSAug g fo fi fe)
    | _, _, _, _ => none) else none
  | .AugAssign (.Attribute o f _) op e _ => if (clsOf ce f).isEmpty = false then (match augOf op, (R ce).1 o, (R ce).1 e with
    | some g, some fo, some fe => some (sFAug (clsOf ce f) f g fo fe)
    | _, _, _ => none) else none
  | .For tg it body [] _ => if noSet it = true then (match cI ce (R ce).1 tg it, cG ce tg, RS' ce body with
    | some fi, some (g, _), some f => some (sFor fi g f)
    | _, _, _ => none) else none
  | .While c body [] _ => (match (R ce).2 c, RS' ce body with
    | some t, some f => some (sWhile t f)
    | _, _ => none)
  | .Raise _ _ _ => some sStk
  | _ => none
def compS (kE : Nat) : Nat → CEnv → List Stmt → Option FS
  | 0, _, _ => none
  | k + 1, ce, [] => some sNil
  | k + 1, ce, st :: r => (match cS1 (comp kE) (compS kE k) ce st, compS kE k ce r with
    | some f, some g => some (sSeq f g)
    | _, _ => none)
section
variable {X : Cx} {W : WX} {n : Nat} {ce : CEnv} {pos : Pos}
theorem c_aug {op : Operator} {g : D → D → Sto → PR} (h : augOf op = some g) : OpD X (inplaceOp op) g := by
  cases op <;> cases h
  · exact iop_add
  · exact iop_sub
  · exact iop_mulD
theorem noComp_sole {e : Expr} (h : noComp e = true) (t : Expr) (l : Nat) (env : PySem.Env) : swapsWithSole [t] e l env = pure false := noComp_sw h (some t) l env
theorem sw_nm {x : Str} {px : Pos} {e : Expr} {env : PySem.Env} : swappedStores [.Name x px] e env = pure none := by
  cases e <;> rfl
theorem sw_att {o : Expr} {f : Str} {p : Pos} {e : Expr} {env : PySem.Env} : swappedStores [.Attribute o f p] e env = pure none := by
  cases e <;> rfl
theorem aug_plain {i : Expr} (h : isSlice i = false) (ov iv new : Value) : augStore i ov iv new = (do holding [new, ov, iv] (setItem ov iv new); release [new, ov, iv] []; pure .next) := by
  cases i <;> first | rfl | cases h
theorem sw_sub {o i : Expr} {p : Pos} {e : Expr} {env : PySem.Env} : swappedStores [.Subscript o i p] e env = pure none := by
  cases e <;> rfl
theorem sw_tup {ts : List Expr} {k : Nat} {p : Pos} {e : Expr} {env : PySem.Env} (h : isTup e = false) : swappedStores [.Tuple ts k p] e env = pure none := by
  cases e <;> first | rfl | cases h
theorem sw_cel (G : Good n X ce) {ts : List Expr} {k : Nat} {p : Pos} {e : Expr} (h : celB ce.sc ts e = true) : swappedStores [.Tuple ts k p] e X.env = pure none := by
  unfold celB at h
  split at h
  · rename_i x px y py a b k2 p2
    have kx : (X.env.kindOf x == some NameKind.local) = false := by
      show (X.env.scope.names.lookup x == _) = false
      rw [G.sc]
      simpa using h
    have kx' : ¬ X.env.kindOf x = some NameKind.local := by simpa using kx
    unfold swappedStores
    simp [List.filterMap_cons, kx']
    intro _ _ _ hlen
    exfalso
    revert hlen
    split <;> simp
  · cases h
theorem fm_le {α β : Type} {f : α → Option β} : ∀ l : List α, (l.filterMap f).length ≤ l.length
  | [] => Nat.le_refl _
  | a :: r => by
    rw [List.filterMap_cons]
    have := fm_le (f := f) r
    split
    · exact Nat.le_succ_of_le this
    · exact Nat.succ_le_succ this
theorem fm_lt {α β : Type} {f : α → Option β} : ∀ {l : List α} {a : α}, a ∈ l → f a = none → (l.filterMap f).length < l.length
  | b :: r, a, h, e => by
    rw [List.filterMap_cons]
    rcases List.mem_cons.mp h with rfl | h
    · rw [e]
      exact Nat.lt_succ_of_le (fm_le (f := f) r)
    · have := fm_lt h e
      split
      · exact Nat.lt_succ_of_lt this
      · exact Nat.succ_lt_succ this
theorem sw_att2 {ts : List Expr} {k : Nat} {p : Pos} {e : Expr} {env : PySem.Env} (h : attB ts = true) : swappedStores [.Tuple ts k p] e env = pure none := by
  obtain ⟨a, ha, hb⟩ := List.any_eq_true.mp h
  cases e with
  | Tuple vs k2 p2 =>
    unfold swappedStores
    dsimp only
    split
    · rfl
    split
    · rfl
    split
    · rfl
    · rename_i hn
      exfalso
      apply hn
      rw [Bool.or_eq_true]
      left
      rw [bne_iff_ne]
      refine Nat.ne_of_lt (fm_lt ha ?_)
      cases a <;> first | rfl | cases hb
  | _ => rfl
theorem sw_any (G : Good n X ce) {ts : List Expr} {k : Nat} {p : Pos} {e : Expr} (h : isTup e = false ∨ celB ce.sc ts e = true ∨ attB ts = true) : swappedStores [.Tuple ts k p] e X.env = pure none := h.elim sw_tup fun h => h.elim (sw_cel G) sw_att2
theorem sw_lc (G : Good n X ce) {elt : Expr} {gens : List Comprehension} {scope : Scope} {vpos py : Pos} {y : Str} {l : Nat} : swapsWith (.ListComp elt gens scope vpos) (some (.Name y py)) l X.env = pure (swB ce.sc y py vpos scope) := by
  have hb : X.env.blockKind = .function := by unfold PySem.Env.blockKind; rw [G.sc, G.kind]; rfl
  have hk : X.env.kindOf y = ce.sc.names.lookup y := by show X.env.scope.names.lookup y = _; rw [G.sc]
  unfold swapsWith swB
  simp only [hb, hk, Expr.pos]
  congr 1
  have e : (ce.sc.names.lookup y == some NameKind.local) = decide (ce.sc.names.lookup y = some .local) := by
    by_cases q : ce.sc.names.lookup y = some .local
    · rw [q]; rfl
    · rw [decide_eq_false q]; exact beq_eq_false_iff_ne.mpr q
  rw [e]
  simp
theorem c_asgN {R : RC} (hR : Snd n R) (G : Good n X ce) (tk : Takes X W) (hW : Flat W) {x : Str} {px : Pos} {v : Expr} {f : FS} (h : cAsgN R ce x px v = some f) : PS X (.Assign [.Name x px] v pos) (tS X.K X.mw W f) := by
  unfold cAsgN at h
  split at h
  · cases h
  · rename_i i e
    obtain ⟨k1, k2, k3⟩ := c_nm G e
    split at h
    · rename_i elt gens scope vpos
      have hsw := sw_lc G (elt := elt) (gens := gens) (scope := scope) (vpos := vpos) (py := px) (y := x) (l := pos.line)
      have hl : swB ce.sc x px vpos scope = true → X.env.scope.names.lookup x = some .local := fun hb => by
        unfold swB at hb
        simp only [Bool.and_eq_true, decide_eq_true_eq] at hb
        rw [G.sc]; exact hb.1.1
      split at h
      · obtain ⟨q, e1, rfl⟩ := Option.map_eq_some_iff.mp h
        cases hb : swB ce.sc x px vpos scope with
        | true =>
          rw [hb] at hsw
          exact c_setlc2 hR G tk (own := q.2) e1 k1 (hl hb) hsw
        | false =>
          rw [hb] at hsw
          exact d_asg (c_lc2 hR G tk (own := q.2) e1) (d_gnm G.nd k1 k2 k3) hsw sw_nm rfl
      · obtain ⟨q, e1, rfl⟩ := Option.map_eq_some_iff.mp h
        cases hb : swB ce.sc x px vpos scope with
        | true =>
          rw [hb] at hsw
          exact c_setlc hR G tk (own := q.2) e1 k1 (hl hb) hsw
        | false =>
          rw [hb] at hsw
          exact d_asg (c_lc hR G tk (own := q.2) e1) (d_gnm G.nd k1 k2 k3) hsw sw_nm rfl
    · split at h
      · rename_i hc
        obtain ⟨f', e1, rfl⟩ := Option.map_eq_some_iff.mp h
        exact d_asg ((hR ce X W G tk).1 _ _ e1) (d_gnm G.nd k1 k2 k3) (noComp_sole hc _ _ _) sw_nm rfl
      · cases h
theorem par2_ok {ts : List Expr} {v : Expr} {x y : Str} {px py : Pos} {a b : Expr} {sc : Scope} (h : par2 sc ts v = some (.two x px y py a b)) : ts = [.Name x px, .Name y py] ∧ (∃ k p, v = .Tuple [a, b] k p) ∧ parB sc x y px py a b = true := by
  unfold par2 at h
  split at h
  · split at h
    · rename_i hb; cases h; exact ⟨rfl, ⟨_, _, rfl⟩, hb⟩
    · cases h
  · split at h <;> cases h
  · cases h
theorem par2_ok3 {ts : List Expr} {v : Expr} {x y z : Str} {px py pz : Pos} {a b c : Expr} {sc : Scope} (h : par2 sc ts v = some (.three x px y py z pz a b c)) : ts = [.Name x px, .Name y py, .Name z pz] ∧ (∃ k p, v = .Tuple [a, b, c] k p) ∧ parB3 sc x y z px py pz a b c = true := by
  unfold par2 at h
  split at h
  · split at h <;> cases h
  · split at h
    · rename_i hb; cases h; exact ⟨rfl, ⟨_, _, rfl⟩, hb⟩
    · cases h
  · cases h
theorem c_asgT {R : RC} (hR : Snd n R) (G : Good n X ce) (tk : Takes X W) (hW : Flat W) {ts : List Expr} {k : Nat} {p : Pos} {v : Expr} {f : FS} (h : cAsgT R ce ts v = some f) : PS X (.Assign [.Tuple ts k p] v pos) (tS X.K X.mw W f) := by
  unfold cAsgT at h
  split at h
  · rename_i x px y py a b e
    obtain ⟨rfl, ⟨kt, pt, rfl⟩, hb⟩ := par2_ok e
    split at h
    · rename_i i j fa e1 e2 e3
      cases h
      obtain ⟨q1, _, _⟩ := c_args (hR ce X W G tk).1 e3
      have hp := par_ok G (pt := p) (pt2 := pt) (kt := k) (k2 := kt) hb
      unfold parB at hb
      simp only [Bool.and_eq_true, decide_eq_true_eq, Bool.not_eq_true'] at hb
      obtain ⟨⟨⟨⟨⟨⟨⟨h1, h2⟩, h3⟩, h4⟩, h5⟩, h6⟩, h7⟩, h8⟩ := hb
      have i1 : X.N[i]? = some x := by rw [G.N]; exact ixOf_get e1
      have i2 : X.N[j]? = some y := by rw [G.N]; exact ixOf_get e2
      refine d_par G.calm G.nd i1 i2 (fun z => ?_) (by rw [G.sc]; exact h1) (by rw [G.sc]; exact h2) q1 hp rfl
      subst z
      rw [i1] at i2
      cases i2
      simp at h4
    · cases h
  · rename_i x px y py z pz a b c e
    obtain ⟨rfl, ⟨kt, pt, rfl⟩, hb⟩ := par2_ok3 e
    split at h
    · rename_i i j l fa e1 e2 e3 e4
      cases h
      obtain ⟨q1, _, _⟩ := c_args (hR ce X W G tk).1 e4
      have hp := par3_ok G (pt := p) (pt2 := pt) (kt := k) (k2 := kt) hb
      unfold parB3 at hb
      simp only [Bool.and_eq_true, decide_eq_true_eq, Bool.not_eq_true'] at hb
      obtain ⟨⟨⟨⟨⟨⟨⟨⟨⟨⟨⟨⟨h1, h2⟩, h3⟩, l1⟩, l2⟩, n1⟩, n2⟩, n3⟩, s1⟩, s2⟩, s3⟩, h7⟩, h8⟩ := hb
      have i1 : X.N[i]? = some x := by rw [G.N]; exact ixOf_get e1
      have i2 : X.N[j]? = some y := by rw [G.N]; exact ixOf_get e2
      have i3 : X.N[l]? = some z := by rw [G.N]; exact ixOf_get e3
      refine d_par3 G.calm G.nd i1 i2 i3 (fun q => ?_) (fun q => ?_) (fun q => ?_) (by rw [G.sc]; exact h1) (by rw [G.sc]; exact h2) (by rw [G.sc]; exact h3) q1 hp
      · subst q
        rw [i1] at i2
        cases i2
        simp at n1
      · subst q
        rw [i1] at i3
        cases i3
        simp at n2
      · subst q
        rw [i2] at i3
        cases i3
        simp at n3
    · cases h
  · split at h
    · rename_i hc
      split at h
      · rename_i f' gs ch e1 e2
        cases h
        obtain ⟨g1, g2, g3, g4⟩ := c_gs G hW e2
        exact d_asg ((hR ce X W G tk).1 _ _ e1) (d_gtp G.calm g4 g1 g2 g3) (noComp_sole hc.2 _ _ _) (sw_any G hc.1) rfl
      · cases h
    · cases h
theorem asg_sub {a b : Expr} {p : Pos} (h : isSlice b = false) {ta tb : TE} {t : TSet} (ha : PE X a ta) (hb : PE X b tb) (hs : PSet X t) : PG X (.Subscript a b p) (gSub ta tb t) :=
  pg_sub ha hb hs fun v => by cases b <;> first | rfl | cases h
theorem c_s1 {R : RC} {RS' : CEnv → List Stmt → Option FS} (hR : Snd n R) (G : Good n X ce) (tk : Takes X W) (hW : Flat W) (hp : PassesOwn (model X.prog X.w) X.A X.env X.xe) (hS : ∀ ss f, RS' ce ss = some f → PSs X ss (tS X.K X.mw W f)) {st : Stmt} {f : FS} (h : cS1 R RS' ce st = some f) : PS X st (tS X.K X.mw W f) := by
  obtain ⟨hf, ht⟩ := hR ce X W G tk
  unfold cS1 at h
  split at h
  · cases h; exact d_pass
  · cases h; exact d_brk
  · cases h; exact d_cnt
  · split at h
    · rename_i hc
      obtain ⟨fe, e1, rfl⟩ := Option.map_eq_some_iff.mp h
      exact d_expr (hf _ _ e1) (noComp_sw hc _ _ _)
    · cases h
  · cases h; exact d_retN
  · obtain ⟨fe, e1, rfl⟩ := Option.map_eq_some_iff.mp h
    exact d_ret (hf _ _ e1)
  · split at h
    · rename_i t f g e1 e2 e3
      cases h
      exact d_if (ht _ _ e1) (hS _ _ e2) (hS _ _ e3)
    · cases h
  · exact c_asgN hR G tk hW h
  · exact c_asgT hR G tk hW h
  · split at h
    · rename_i hc
      split at h
      · rename_i f fo fi e1 e2 e3
        cases h
        exact d_asg (hf _ _ e1) (d_gsb (by have := G.rm.un; omega) (hf _ _ e2) (hf _ _ e3) (asg_sub hc.2)) (noComp_sole hc.1 _ _ _) sw_sub rfl
      · cases h
    · cases h
  · split at h
    · rename_i hc
      split at h
      · rename_i fv cs i e1 e2
        cases h
        exact d_asg (hf _ _ e1) (c_ga G e2) (noComp_sole hc _ _ _) sw_att rfl
      · cases h
    · cases h
  · split at h
    · rename_i i g f e1 e2 e3
      cases h
      obtain ⟨k1, k2, k3⟩ := c_nm G e1
      exact d_aug G.nd k1 k2 (hf _ _ e3) (c_aug e2) k3
    · cases h
  · split at h
    · rename_i hs
      split at h
      · rename_i g fo fi fe e1 e2 e3 e4
        cases h
        exact d_saug (hf _ _ e2) (hf _ _ e3) (hf _ _ e4) (c_aug e1) (aug_plain hs)
      · cases h
    · cases h
  · split at h
    · split at h
      · rename_i g fo fe e1 e2 e3
        cases h
        exact d_faug hW (clsOf_ok G) (hf _ _ e2) (hf _ _ e3) (c_aug e1)
      · cases h
    · cases h
  · split at h
    · rename_i hs
      split at h
      · rename_i fi g ch f e1 e2 e3
        cases h
        exact d_for hW hp G.calm (c_i G hf e1) (c_g G hW e2).1 (hS _ _ e3) (noSet_fold hs X.env)
      · cases h
    · cases h
  · split at h
    · rename_i t f e1 e2
      cases h
      exact d_while hW hp (ht _ _ e1) (hS _ _ e2)
    · cases h
  · cases h
    refine PS.imp ps_never fun D' σ H h => ?_
    obtain ⟨env, S, o, _, p⟩ := h
    exact False.elim p
  · cases h
theorem compS_snd (G : Good n X ce) (tk : Takes X W) (hW : Flat W) (hp : PassesOwn (model X.prog X.w) X.A X.env X.xe) {kE : Nat} : ∀ (k : Nat) (ss : List Stmt) (f : FS), compS kE k ce ss = some f → PSs X ss (tS X.K X.mw W f) := by
  intro k
  induction k with
  | zero => intro ss f h; cases h
  | succ k ih =>
    intro ss f h
    cases ss with
    | nil => cases h; exact d_snil
    | cons st r =>
      unfold compS at h
      split at h
      · rename_i f' g e1 e2
        cases h
        exact d_scons hW (c_s1 (comp_snd n kE) G tk hW hp ih e1) (ih _ _ e2)
      · cases h
end

/-! ### a whole program -/
structure DefI where
  nm : Str
  st : Stmt
  N : List Str
  ps : List Str
abbrev Fns := Str → List D → Sto → Out D
def ceOf (gl : Str → Option Gb) (cs : List Str) (d : DefI) (C : Fns) : CEnv := { N := d.N, sc := defScope d.st, st := fun x => decide ((defScope d.st).names.lookup x = some .local ∨ (defScope d.st).names.lookup x = some .cell), gl := gl, call := C, cs := cs }
theorem loc_ok {sc : Scope} {x : Str} (h : decide (sc.names.lookup x = some .local ∨ sc.names.lookup x = some .cell) = true) : L2.Loc sc x := by
  unfold L2.Loc
  exact of_decide_eq_true h
/-- the def at one level above what it calls -/
theorem fn_one {P : Program} {w : World} {K : PySem.W.Frag} {mg : Str → Option Value} {base : Heap} {k kE kS : Nat} {gl : Str → Option Gb} {d : DefI} {C : Fns} {b : FS} {f : Addr} {fd : FuncData} {dvs : List V} {kws : List (Str × V)} {qual : Str}
    (F : FunD K d.nm qual (defArgs d.st) (defBody d.st) (defScope d.st) dvs kws f fd) (S : FnScope d.N d.ps (defScope d.st)) (hc : compS kE kS (ceOf gl cs d C) (defBody d.st) = some b)
    (hgl : ∀ x g, gl x = some g → match g with
      | .cst d => ∃ v u, mg x = some u ∧ RelV v u ∧ ∀ o : Wd, RD K ⟨mg, w⟩ o d v
      | .free => mg x = none
      | .fn dfl shs => Cal P w K mg base k x dfl shs (C x)
      | .mt c m dfl shs => MCal P w K mg base k c m dfl shs (C x)
      | .mk flds => KCal P w K mg base k x (C x) ∧ ∀ f ∈ flds, ClF K mg x f) :
    FnG P w K mg base (k + 1) f fd d.ps (spD K ⟨mg, w⟩ d.ps.length (runB d.N.length d.ps.length b)) := by
  refine fn_g F S fun cdv A outer s H E hr => ?_
  have G : Good k (cxOf (CX P w) P w K mg base d.N qual (defScope d.st) f cdv A outer s H E) (ceOf gl cs d C) := by
    refine ⟨rfl, S.nd, rfl, S.kind, fun x hx => ⟨loc_ok hx, .inl rfl⟩, rfl, hr, fun x g hg => ?_⟩
    have := hgl x g hg
    cases g with
    | cst d => exact this
    | free => exact this
    | fn dfl shs => exact this
    | mt c m dfl shs => exact this
    | mk flds => exact this
  exact compS_snd G (takes_of rfl rfl rfl rfl) (fun _ _ _ _ _ h => h) (passes_of rfl) kS _ _ hc
end PV

set_option Elab.async false
set_option linter.all false
set_option maxRecDepth 100000
set_option maxHeartbeats 3999000
namespace PV
open L2 PyProof.Rows PySem PySem.Spec

/-! ### the table of a program's defs -/
/-- a def, a method, a class -/
inductive EKd where
  | fn | mt (c m : Str) | mk (flds : List Str) (init : Str)
structure Ent where
  kd : EKd
  g : Str
  d : DefI
  qual : Str
  dfl : List D
  shs : List Shape
  b : Fns → FS
/-- a scalar as a value -/
def vOf : D → V
  | .bl b => .bl b
  | .int i => .int i
  | .str x => .str x
  | _ => .non
def isScal : D → Bool
  | .non => true
  | .bl _ => true
  | .int _ => true
  | .str _ => true
  | _ => false
def Ent.dvs (e : Ent) : List V := e.dfl.map vOf
theorem scal_rd {K : PySem.W.Frag} {mw : MW} {o : Wd} {d : D} (h : isScal d = true) : RD K mw o d (vOf d) := by
  cases d <;> first | constructor | cases h
theorem scal_rds {K : PySem.W.Frag} {mw : MW} {o : Wd} : ∀ {ds : List D}, ds.all isScal = true → RDs K mw o ds (ds.map vOf)
  | [], _ => .nil
  | d :: ds, h => by
    rw [List.all_cons, Bool.and_eq_true] at h
    exact .cons (scal_rd h.1) (scal_rds h.2)
def entOf (T : List Ent) (x : Str) : Option Ent := T.find? fun e => e.g == x
def runT (T : List Ent) : Nat → Fns
  | 0 => fun _ _ _ => .stk
  | k + 1 => fun x ds S => match entOf T x with
    | some e => (match e.kd with
      | .mk _ i => mkRun (runT T k i) x ds S
      | _ => runB e.d.N.length e.d.ps.length (e.b (runT T k)) ds S)
    | none => .stk
def EKd.isMk : EKd → Bool
  | .mk _ _ => true
  | _ => false
theorem runT_succ {T : List Ent} {k : Nat} {x : Str} {e : Ent} (h : entOf T x = some e) (hk : e.kd.isMk = false) (ds : List D) (S : Sto) : runT T (k + 1) x ds S = runB e.d.N.length e.d.ps.length (e.b (runT T k)) ds S := by
  show (match entOf T x with
    | some e => (match e.kd with
      | .mk _ i => mkRun (runT T k i) x ds S
      | _ => runB e.d.N.length e.d.ps.length (e.b (runT T k)) ds S)
    | none => .stk) = _
  rw [h]
  dsimp only
  split
  · rename_i e2
    rw [e2] at hk
    cases hk
  · rfl
theorem runT_mk {T : List Ent} {k : Nat} {x i : Str} {fl : List Str} {e : Ent} (h : entOf T x = some e) (hk : e.kd = .mk fl i) : runT T (k + 1) x = mkRun (runT T k i) x := by
  funext ds S
  show (match entOf T x with
    | some e => (match e.kd with
      | .mk _ i => mkRun (runT T k i) x ds S
      | _ => runB e.d.N.length e.d.ps.length (e.b (runT T k)) ds S)
    | none => .stk) = _
  rw [h]
  dsimp only
  rw [hk]
/-- what the head tells of one def -/
structure EntOk (K : PySem.W.Frag) (mw : MW) (kE kS : Nat) (gl : Str → Option Gb) (cs : List Str) (T : List Ent) (e : Ent) : Prop where
  fn : e.kd.isMk = false → ∃ (f : Addr) (fd : FuncData), (match e.kd with
      | .mt c m => ∃ C, mw.mg c = some (.ref C) ∧ Cls K C ∧ Meth K C m f
      | _ => mw.mg e.g = some (.ref f) ∧ PySem.W.keepIn K (.ref f) = true) ∧ FunD K e.d.nm e.qual (defArgs e.d.st) (defBody e.d.st) (defScope e.d.st) e.dvs [] f fd ∧
    ∀ sh ∈ e.shs, ∃ its, Vals e.dvs its ∧ ∀ (s : Shared) (us ws : List Value), K.In s.heap → us.length = sh.n → ws.length = sh.ks.length → BindsTo s fd ⟨us, sh.ks.zip ws⟩ (e.d.ps.zip (arr us ws its sh.src))
  mkk : ∀ fl i, e.kd = .mk fl i → ∃ C, mw.mg e.g = some (.ref C) ∧ PySem.W.keepIn K (.ref C) = true ∧ PySem.W.makesIn K C = true ∧ (∀ f ∈ fl, ClF K mw.mg e.g f) ∧ ∃ e', entOf T i = some e' ∧ e'.kd = .mt e.g "__init__" ∧
    ∀ (f : Addr) (fd : FuncData), FunD K e'.d.nm e'.qual (defArgs e'.d.st) (defBody e'.d.st) (defScope e'.d.st) e'.dvs [] f fd → ∀ (s : Shared) (us : List Value), K.In s.heap → us.length = e'.d.ps.length → BindsTo s fd ⟨us, []⟩ (e'.d.ps.zip us)
  sc : e.kd.isMk = false → FnScope e.d.N e.d.ps (defScope e.d.st)
  df : ∀ o : Wd, RDs K mw o e.dfl e.dvs
  body : e.kd.isMk = false → ∀ C : Fns, compS kE kS (ceOf gl cs e.d C) (defBody e.d.st) = some (e.b C)
/-- what stands in the table of names -/
def GlOk (K : PySem.W.Frag) (mw : MW) (T : List Ent) (x : Str) : Gb → Prop
  | .cst d => ∃ v u, mw.mg x = some u ∧ RelV v u ∧ ∀ o : Wd, RD K mw o d v
  | .free => mw.mg x = none
  | .fn dfl shs => ∃ e, entOf T x = some e ∧ e.kd = .fn ∧ e.dfl = dfl ∧ e.shs = shs
  | .mt c m dfl shs => ∃ e, entOf T x = some e ∧ e.kd = .mt c m ∧ e.dfl = dfl ∧ e.shs = shs
  | .mk fl => ∃ e i, entOf T x = some e ∧ e.kd = .mk fl i
theorem entOf_mem {T : List Ent} {x : Str} {e : Ent} (h : entOf T x = some e) : e ∈ T ∧ e.g = x := by
  refine ⟨List.mem_of_find?_eq_some h, ?_⟩
  have := List.find?_some h
  exact eq_of_beq this
section
variable {P : Program} {w : World} {K : PySem.W.Frag} {mg : Str → Option Value} {base : Heap} {kE kS : Nat} {gl : Str → Option Gb} {cs : List Str} {T : List Ent}
/-- what the table tells at one level -/
def TabP (P : Program) (w : World) (K : PySem.W.Frag) (mg : Str → Option Value) (base : Heap) (T : List Ent) (k : Nat) (x : Str) (e : Ent) : Prop := match e.kd with
  | .fn => Cal P w K mg base k x e.dfl e.shs (runT T k x)
  | .mt c m => MCal P w K mg base k c m e.dfl e.shs (runT T k x) ∧ ∃ (C f : Addr) (fd : FuncData), mg c = some (.ref C) ∧ Meth K C m f ∧ FunD K e.d.nm e.qual (defArgs e.d.st) (defBody e.d.st) (defScope e.d.st) e.dvs [] f fd ∧
      FnG P w K mg base k f fd e.d.ps (spD K ⟨mg, w⟩ e.d.ps.length (runT T k x)) ∧ ∀ ds S, ds.length ≠ e.d.ps.length → runT T k x ds S = .stk
  | .mk _ _ => KCal P w K mg base k x (runT T k x)
theorem gl_of {k : Nat} (hT : ∀ e ∈ T, EntOk K ⟨mg, w⟩ kE kS gl cs T e) (hg : ∀ x g, gl x = some g → GlOk K ⟨mg, w⟩ T x g) (ih : ∀ x e, entOf T x = some e → TabP P w K mg base T k x e) : ∀ y g, gl y = some g → match g with
      | .cst d => ∃ v u, mg y = some u ∧ RelV v u ∧ ∀ o : Wd, RD K ⟨mg, w⟩ o d v
      | .free => mg y = none
      | .fn dfl shs => Cal P w K mg base k y dfl shs (runT T k y)
      | .mt c m dfl shs => MCal P w K mg base k c m dfl shs (runT T k y)
      | .mk flds => KCal P w K mg base k y (runT T k y) ∧ ∀ f ∈ flds, ClF K mg y f := by
  intro y g hy
  have := hg y g hy
  cases g with
  | cst d => exact this
  | free => exact this
  | fn dfl shs =>
    obtain ⟨e', he', hk, rfl, rfl⟩ := this
    have := ih y e' he'
    unfold TabP at this
    rw [hk] at this
    exact this
  | mt c m dfl shs =>
    obtain ⟨e', he', hk, rfl, rfl⟩ := this
    have := ih y e' he'
    unfold TabP at this
    rw [hk] at this
    exact this.1
  | mk fl =>
    obtain ⟨e', i, he', hk⟩ := this
    have z := ih y e' he'
    unfold TabP at z
    rw [hk] at z
    obtain ⟨hm, rfl⟩ := entOf_mem he'
    obtain ⟨C, _, _, _, hf, _⟩ := (hT e' hm).mkk fl i hk
    exact ⟨z, hf⟩
theorem tab_ok (hT : ∀ e ∈ T, EntOk K ⟨mg, w⟩ kE kS gl cs T e) (hg : ∀ x g, gl x = some g → GlOk K ⟨mg, w⟩ T x g) : ∀ (k : Nat) (x : Str) (e : Ent), entOf T x = some e → TabP P w K mg base T k x e := by
  intro k
  induction k with
  | zero =>
    intro x e hx
    obtain ⟨hm, rfl⟩ := entOf_mem hx
    have E := hT e hm
    have fg : ∀ (f : Addr) (fd : FuncData), FnG P w K mg base 0 f fd e.d.ps (spD K ⟨mg, w⟩ e.d.ps.length (runT T 0 e.g)) := fun f fd => by
      refine ⟨fun vs H Q E h => ?_, fun A outer s H args us vs Q E hr e0 hb r h => ?_⟩
      · obtain ⟨o, ds, S, _, _, _, _, p⟩ := h
        exact False.elim p
      · obtain ⟨o, ds, S, _, _, _, _, p⟩ := h
        exact False.elim p
    unfold TabP
    cases hk : e.kd with
    | fn =>
      obtain ⟨f, fd, h1, h2, h3⟩ := E.fn (by rw [hk]; rfl)
      rw [hk] at h1
      exact ⟨f, fd, e.d.ps, e.dvs, h1.1, h2.kp, fg f fd, E.df, fun ds S _ => rfl, h3⟩
    | mt c m =>
      obtain ⟨f, fd, h1, h2, h3⟩ := E.fn (by rw [hk]; rfl)
      rw [hk] at h1
      obtain ⟨C, c1, c2, c3⟩ := h1
      exact ⟨⟨C, f, fd, e.d.ps, e.dvs, c1, c2, c3, fg f fd, E.df, fun ds S _ => rfl, h3⟩, C, f, fd, c1, c3, h2, fg f fd, fun ds S _ => rfl⟩
    | mk fl i =>
      obtain ⟨C, c1, c2, _⟩ := E.mkk fl i hk
      exact ⟨C, c1, c2, .inl fun ds S => rfl⟩
  | succ k ih =>
    intro x e hx
    obtain ⟨hm, rfl⟩ := entOf_mem hx
    have E := hT e hm
    have fg : e.kd.isMk = false → ∀ (f : Addr) (fd : FuncData), FunD K e.d.nm e.qual (defArgs e.d.st) (defBody e.d.st) (defScope e.d.st) e.dvs [] f fd → FnG P w K mg base (k + 1) f fd e.d.ps (spD K ⟨mg, w⟩ e.d.ps.length (runT T (k + 1) e.g)) := fun hk f fd h2 => by
      have hF : runT T (k + 1) e.g = runB e.d.N.length e.d.ps.length (e.b (runT T k)) := by
        funext ds S
        exact runT_succ hx hk ds S
      rw [hF]
      exact fn_one h2 (E.sc hk) (E.body hk (runT T k)) (gl_of hT hg ih)
    have st : e.kd.isMk = false → ∀ ds S, ds.length ≠ e.d.ps.length → runT T (k + 1) e.g ds S = .stk := fun hk ds S hl => by
      rw [runT_succ hx hk]
      exact runB_len hl
    unfold TabP
    cases hk : e.kd with
    | fn =>
      have hk' : e.kd.isMk = false := by rw [hk]; rfl
      obtain ⟨f, fd, h1, h2, h3⟩ := E.fn hk'
      rw [hk] at h1
      exact ⟨f, fd, e.d.ps, e.dvs, h1.1, h2.kp, fg hk' f fd h2, E.df, st hk', h3⟩
    | mt c m =>
      have hk' : e.kd.isMk = false := by rw [hk]; rfl
      obtain ⟨f, fd, h1, h2, h3⟩ := E.fn hk'
      rw [hk] at h1
      obtain ⟨C, c1, c2, c3⟩ := h1
      exact ⟨⟨C, f, fd, e.d.ps, e.dvs, c1, c2, c3, fg hk' f fd h2, E.df, st hk', h3⟩, C, f, fd, c1, c3, h2, fg hk' f fd h2, st hk'⟩
    | mk fl i =>
      obtain ⟨C, c1, c2, c3, c4, e', he', hk', hb⟩ := E.mkk fl i hk
      have z := ih i e' he'
      unfold TabP at z
      rw [hk'] at z
      obtain ⟨_, C', f, fd, d1, d2, d3, d4, d5⟩ := z
      have c1' : mg e.g = some (.ref C) := c1
      rw [c1'] at d1
      cases d1
      exact ⟨C, c1, c2, .inr ⟨k, f, fd, e'.d.ps, runT T k i, rfl, ⟨c3, d2.at_, d2.fn, c2⟩, d4, d5, runT_mk hx hk, hb f fd d3⟩⟩
theorem tab_fn (hT : ∀ e ∈ T, EntOk K ⟨mg, w⟩ kE kS gl cs T e) (hg : ∀ x g, gl x = some g → GlOk K ⟨mg, w⟩ T x g) {k : Nat} {x : Str} {e : Ent} (hx : entOf T x = some e) (hk : e.kd.isMk = false)
    {f : Addr} {fd : FuncData} (F : FunD K e.d.nm e.qual (defArgs e.d.st) (defBody e.d.st) (defScope e.d.st) e.dvs [] f fd) : FnG P w K mg base (k + 1) f fd e.d.ps (spD K ⟨mg, w⟩ e.d.ps.length (runT T (k + 1) x)) := by
  obtain ⟨hm, rfl⟩ := entOf_mem hx
  have hF : runT T (k + 1) e.g = runB e.d.N.length e.d.ps.length (e.b (runT T k)) := by
    funext ds S
    exact runT_succ hx hk ds S
  rw [hF]
  exact fn_one F ((hT e hm).sc hk) ((hT e hm).body hk (runT T k)) (gl_of hT hg (tab_ok hT hg k))
end

/-! ### the law's own call -/
theorem rds_ints {K : PySem.W.Frag} {mw : MW} {o : Wd} : ∀ ns : List Int, RDs K mw o (ns.map D.int) (ns.map V.int)
  | [] => .nil
  | n :: ns => .cons (.int n) (rds_ints ns)
/-- the abstract heap of the entry: the script alone, unless it is the module's own -/
def H1 (K : PySem.W.Frag) (a : Addr) (ob : Obj) (ns : List Int) : Hp := fun b => if b = a ∧ K.lookup a = none then some (.frz ob (.lst (ns.map V.int))) else none
theorem law_g {P : Program} {w : World} {K : PySem.W.Frag} {mg mb : Str → Option Value} {k : Nat} {fa a : Addr} {fd : FuncData} {x : Str} {F : List D → Sto → Out D} {s : Shared} {vs : List Value} {ns : List Int} {S' : Sto}
    (KX : K.In s.heap) (hns : s.heap.Ns mainGlobals mg) (hb : s.heap.Ns builtinsNs mb) (hbb : ∀ x : Str, x ≠ "__name__" → mb x = bootBuiltins x) (hlim : s.heap.NoLimit) (hg : s.gens = #[])
    (ha : s.heap.get? a = some { cls := .type "list", data := .seq vs.toArray }) (hi : IntsAre vs ns) (hl : ns.length ≤ sizeLine) (hr : Rm k callerA)
    (G : ∀ base : Heap, K.In base → base.Ns mainGlobals mg → FnG P w K mg base k fa fd [x] (spD K ⟨mg, w⟩ 1 F)) (hbind : ∀ (s : Shared) (u : Value), BindsTo s fd ⟨[u], []⟩ [(x, u)])
    (hF : F [.fz (ns.map D.int)] [] = .ok (.bl true) S') :
    codeAny (model P w) callerA (.call (.ref fa) ⟨[.ref a], []⟩) (fun r s' => r = .ok (.ret (.bool true)) ∧ OldK s.heap s'.heap ∧ s'.os = s.os ∧ AllBare s'.gens) s := by
  generalize hob : ({ cls := .type "list", data := .seq vs.toArray } : Obj) = ob at ha
  have rv := vals_ints hi
  have hlen := hi.length
  generalize hH : H1 K a ob ns = H
  have hH0 : ∀ b u, H b = some u → b = a ∧ K.lookup a = none ∧ u = .frz ob (.lst (ns.map V.int)) := fun b u e => by
    rw [← hH] at e
    unfold H1 at e
    split at e
    · rename_i h; cases e; exact ⟨h.1, h.2, rfl⟩
    · cases e
  have hok : HOk P w H s.heap := fun b u e => by
    obtain ⟨rfl, _, rfl⟩ := hH0 b u e
    refine ⟨ha, by rw [List.length_map]; exact hl, vs, 0, rv, ?_⟩
    rw [ha, ← hob]
  have sq : SqF K H a (ns.map V.int) := by
    cases hk : K.lookup a with
    | none => exact .inl ⟨ob, by rw [← hH]; exact if_pos ⟨rfl, hk⟩⟩
    | some o2 =>
      have e := KX a o2 hk
      rw [ha] at e
      cases e
      refine .inr (.inr ⟨ob, vs.toArray, 0, hk, ?_, ?_, ?_, ?_, ?_⟩)
      · rw [← hob]
      · rw [← hob]
      · rw [← hob]
      · rw [List.size_toArray, hlen]; exact hl
      · simpa using rv
  have bget : ∀ {b : Addr} {o : Obj}, s.heap.get? b = some o → H b = none → (hidT s.heap H).get? b = some o := fun e n => hidT_get e n
  have nodict : ∀ {b : Addr} {o : Obj} {es : Array DictEntry} {ep : Nat}, s.heap.get? b = some o → o.data = .dict es ep → H b = none := fun {b o es ep} e d => by
    cases q : H b with
    | none => rfl
    | some u =>
      obtain ⟨rfl, _, _⟩ := hH0 b u q
      rw [ha] at e
      cases e
      rw [← hob] at d
      cases d
  have nsB : ∀ {b : Addr} {m : Str → Option Value}, s.heap.Ns b m → (hidT s.heap H).Ns b m := fun {b m} ⟨o, es, ep, e, d, r⟩ => ⟨o, es, ep, bget e (nodict e d), d, r⟩
  have KB : K.In (hidT s.heap H) := fun b o e => bget (KX b o e) (by
    cases q : H b with
    | none => rfl
    | some u =>
      obtain ⟨rfl, hk, _⟩ := hH0 b u q
      rw [hk] at e
      cases e)
  obtain ⟨mc, l1, l2⟩ := hlim
  have hM : Mod K mg (hidT s.heap H) := ⟨KB, nsB hns, ⟨mb, nsB hb, hbb⟩, mc, nsB l1, l2⟩
  have e0 : Env0 P w K mg (hidT s.heap H) callerA [] s H := ⟨rfl, hM, fun b o e => of_hidT e, Nat.le_of_eq (hidT_size _ _), trivial, fun b hb => (nomatch (show b ∈ ([] : List Addr) from hb)), hok, .of_eq hg⟩
  have hsp : spD K ⟨mg, w⟩ 1 F [.ref a] H (fun v _ => v = .bl true) (fun _ _ _ => False) := by
    refine ⟨⟨[], H⟩, [.fz (ns.map D.int)], [], rfl, .cons (.fz sq (rds_ints ns)) .nil, ⟨rfl, List.Pairwise.nil, fun n x e => by simp at e⟩, rfl, ?_⟩
    rw [hF]
    exact fun o' _ _ v rd => by cases rd; rfl
  refine codeAny_mono ((G _ KB (nsB hns)).run callerA [] s H ⟨[.ref a], []⟩ [.ref a] [.ref a] _ _ hr e0 (hbind s (.ref a)) (.cons rfl .nil) hsp) fun r s' h => ?_
  cases r with
  | error e =>
    have ⟨_, _, _, _, _, _, _, _, _, _, _, _, z⟩ := h
    exact z.elim
  | ok fl =>
    cases fl with
    | ret u =>
      obtain ⟨v, H', os, bare, un, hok', rr, q⟩ := h
      have q : v = .bl true := q
      subst q
      obtain rfl : u = Value.bool true := rr
      refine ⟨rfl, .of_keep fun b o e => ?_, os, bare⟩
      cases qq : H b with
      | none => exact un.keep b o e qq (fun z => (nomatch (show b ∈ ([] : List Addr) from z))) (fun z => (nomatch z))
      | some u =>
        obtain ⟨rfl, _, rfl⟩ := hH0 b u qq
        have z2 := un.frzs b ob _ qq
        obtain ⟨e2, _⟩ := hok' b _ z2
        rw [ha] at e
        cases e
        exact e2
    | next => exact False.elim h
    | brk => exact False.elim h
    | cont => exact False.elim h
/-- THE END: a law over the table -/
theorem walk_t {l : PySem.W.OpenLaw} {n k : Nat} {q : Program} {loose : List Str} {XP : (Str → Option Value) → Heap → Prop} {YP : World → Heap → Prop} {d : DefRec} {T : List Ent} {kE kS : Nat} {gl : Str → Option Gb} {cs : List Str} {e : Ent} {x : Str}
    (hn : l.most = some n) (hn2 : n ≤ sizeLine) (hdf : d.params.defaults = []) (hr : Rm (k + 1) callerA) (he : entOf T d.name = some e) (hkd : e.kd = .fn) (hps : e.d.ps = [x])
    (hK : ∀ (w : World) (mg : Str → Option Value) (h : Heap), YP w h → h.Ns mainGlobals mg → ∃ K : PySem.W.Frag, K.In h ∧ (∀ e ∈ T, EntOk K ⟨mg, w⟩ kE kS gl cs T e) ∧ (∀ x g, gl x = some g → GlOk K ⟨mg, w⟩ T x g) ∧
      ∀ (fd : FuncData) (f : Addr), FunD K e.d.nm e.qual (defArgs e.d.st) (defBody e.d.st) (defScope e.d.st) e.dvs [] f fd → ∀ (s : Shared) (u : Value), BindsTo s fd ⟨[u], []⟩ [(x, u)])
    (hF : ∀ ns : List Int, ns.length ≤ n → (∀ i ∈ ns, Builtin.Int.intBits i ≤ 1048576) → ∃ S', runT T (k + 1) d.name [.fz (ns.map D.int)] [] = .ok (.bl true) S') :
    PySem.W.WalkO q loose XP YP l.row.toRowW d [] (fun f vs => PySem.call f vs) := by
  refine Att.attach_callB hn hdf fun w _ s₁ mg mb fa o pm cd doc a vs ns G Y ho hd hcd hmg hobj hints hlen hbits hg => ?_
  obtain ⟨K, KX, hT, hG, hB⟩ := hK w mg s₁.heap Y G.T.g
  obtain ⟨S', hS⟩ := hF ns hlen hbits
  obtain ⟨hm, hge⟩ := entOf_mem he
  have hkm : e.kd.isMk = false := by rw [hkd]; rfl
  obtain ⟨f, fd, h1, h2, h3⟩ := (hT e hm).fn hkm
  rw [hkd] at h1
  have hfa : f = fa := by
    have h1 : mg e.g = some (.ref f) := h1.1
    rw [hge, hmg] at h1
    exact (Value.ref.inj (Option.some.inj h1)).symm
  subst hfa
  refine law_g (F := runT T (k + 1) d.name) (x := x) KX G.T.g G.T.b G.T.builtins G.T.nolimit hg hobj hints (Nat.le_trans hlen hn2) hr (fun base KB nb => ?_) (hB fd f h2) hS
  have z := tab_fn (P := l.prog) (w := w) (base := base) hT hG (k := k) he hkm h2
  rw [hps] at z
  exact z
end PV

set_option Elab.async false
set_option linter.all false
set_option maxRecDepth 100000
set_option maxHeartbeats 3999000
namespace PV
open L2 PyProof.Rows PySem PySem.Spec

/-! ### what the head is asked -/
def all2 {α β : Type} (f : α → β → Bool) : List α → List β → Bool
  | [], [] => true
  | a :: r, b :: s => f a b && all2 f r s
  | _, _ => false
def cstB (K : PySem.W.Frag) : Nat → Value → D → Bool
  | _, .none, .non => true
  | _, .bool b, .bl c => b == c
  | _, .int i _, .int j => decide (i = j)
  | _, .str x _, .str y => decide (x = y)
  | n + 1, .ref a, .tup ds => (match K.lookup a with
    | some ⟨.type c, _, .seq its _, _⟩ => decide (c = "tuple") && (decide (its.size ≤ sizeLine) && all2 (cstB K n) its.toList ds)
    | _ => false)
  | _, _, _ => false
theorem all2_ok {K : PySem.W.Frag} {mw : MW} {f : Value → D → Bool} (hf : ∀ u d, f u d = true → ∃ v, RelV v u ∧ ∀ o : Wd, RD K mw o d v) : ∀ {us : List Value} {ds : List D}, all2 f us ds = true → ∃ vs, Vals vs us ∧ ∀ o : Wd, RDs K mw o ds vs
  | [], [], _ => ⟨[], .nil, fun _ => .nil⟩
  | [], _ :: _, h => by cases h
  | _ :: _, [], h => by cases h
  | u :: us, d :: ds, h => by
    obtain ⟨h1, h2⟩ := Bool.and_eq_true_iff.mp (show (f u d && all2 f us ds) = true from h)
    obtain ⟨v, a1, a2⟩ := hf u d h1
    obtain ⟨vs, b1, b2⟩ := all2_ok hf h2
    exact ⟨v :: vs, .cons a1 b1, fun o => .cons (a2 o) (b2 o)⟩
theorem cstB_ok {K : PySem.W.Frag} {mw : MW} : ∀ (n : Nat) (u : Value) (d : D), cstB K n u d = true → ∃ v, RelV v u ∧ ∀ o : Wd, RD K mw o d v := by
  intro n
  induction n with
  | zero =>
    intro u d h
    cases u <;> cases d <;> first | cases h | skip
    · exact ⟨.non, rfl, fun _ => .non⟩
    · rename_i b c
      have e : b = c := eq_of_beq (show (b == c) = true from h)
      exact ⟨.bl b, rfl, fun _ => by rw [e]; exact .bl c⟩
    · rename_i i t j
      obtain rfl := of_decide_eq_true (p := i = j) h
      exact ⟨.int i, ⟨t, rfl⟩, fun _ => .int i⟩
    · rename_i x t y
      obtain rfl := of_decide_eq_true (p := x = y) h
      exact ⟨.str x, ⟨t, rfl⟩, fun _ => .str x⟩
  | succ n ih =>
    intro u d h
    cases u <;> cases d <;> first | cases h | skip
    · exact ⟨.non, rfl, fun _ => .non⟩
    · rename_i b c
      have e : b = c := eq_of_beq (show (b == c) = true from h)
      exact ⟨.bl b, rfl, fun _ => by rw [e]; exact .bl c⟩
    · rename_i i t j
      obtain rfl := of_decide_eq_true (p := i = j) h
      exact ⟨.int i, ⟨t, rfl⟩, fun _ => .int i⟩
    · rename_i x t y
      obtain rfl := of_decide_eq_true (p := x = y) h
      exact ⟨.str x, ⟨t, rfl⟩, fun _ => .str x⟩
    · rename_i a ds
      have h : (match K.lookup a with
        | some ⟨.type c, _, .seq its _, _⟩ => decide (c = "tuple") && (decide (its.size ≤ sizeLine) && all2 (cstB K n) its.toList ds)
        | _ => false) = true := h
      split at h
      · rename_i c od its m sl q
        obtain ⟨h1, h2⟩ := Bool.and_eq_true_iff.mp h
        obtain ⟨h3, h4⟩ := Bool.and_eq_true_iff.mp h2
        obtain ⟨vs, b1, b2⟩ := all2_ok ih h4
        exact ⟨.ref a, rfl, fun o => .tup (.inr ⟨_, its, m, q, congrArg Value.type (of_decide_eq_true h1), rfl, of_decide_eq_true h3, b1⟩) (b2 o)⟩
      · cases h
/-- a name of the module, as the table has it -/
def gbB (K : PySem.W.Frag) (x : Str) : Gb → Bool
  | .cst d => (match PySem.W.nsIn K mainGlobals x with
    | some (some u) => cstB K 8 u d
    | _ => false)
  | .free => decide (PySem.W.nsIn K mainGlobals x = some none)
  | .fn _ _ => decide (PySem.W.nsIn K mainGlobals x = some (some (.ref (He.ga K x))))
  | _ => true
def dvOf : D → He.Dv
  | .bl b => .bl b
  | .int i => .int i
  | .str x => .str x
  | _ => .non
/-- where a def stands: a name of the module, a class and its method -/
def atOf (e : Ent) : Str × Option Str := match e.kd with
  | .mt c m => (c, some m)
  | _ => (e.g, none)
def ddOf (e : Ent) : He.DefD := ⟨atOf e, e.d.nm, e.qual, defArgs e.d.st, defBody e.d.st, defScope e.d.st, e.dfl.map dvOf, []⟩
def gloB (K : PySem.W.Frag) (x : Str) : Bool := decide (PySem.W.nsIn K mainGlobals x = some (some (.ref (He.ga K x))))
/-- what is asked of one row of the table -/
def entB (K : PySem.W.Frag) (e : Ent) : Bool := match e.kd with
  | .fn => gloB K e.g && (ddOf e).ok K
  | .mt c m => gloB K c && ((He.Fa.cls c).ok K && ((He.Fa.meth c m).ok K && (ddOf e).ok K))
  | .mk fl _ => gloB K e.g && (PySem.W.keepIn K (.ref (He.ga K e.g)) && (PySem.W.makesIn K (He.ga K e.g) && ((He.Fa.cls e.g).ok K && fl.all fun f => (He.Fa.noat e.g f).ok K)))
def chk (gt : List (Str × Gb)) (T : List Ent) (K : PySem.W.Frag) : Bool := (gt.all fun p => gbB K p.1 p.2) && (T.all fun e => entB K e)
abbrev AlP : Type := Bool × List He.FnW
def defsOf (T : List Ent) : List Ent := T.filter fun e => !e.kd.isMk
def obsP (gt : List (Str × Gb)) (T : List Ent) (K : PySem.W.Frag) : AlP := (chk gt T K, (defsOf T).map fun e => He.fnW K (ddOf e).at_)
def valP (T : List Ent) : AlP := (true, (defsOf T).map fun e => (ddOf e).val)
def hookP (n : Nat) (gt : List (Str × Gb)) (T : List Ent) : PySem.W.Hook where
  α := AlP
  obs := fun s => obsP gt T (He.frG s.heap.get? (He.asD s.heap.get? n))
  val := fun _ => valP T
  says := fun _ h => ∃ K : PySem.W.Frag, K.In h ∧ obsP gt T K = valP T
  of := fun _ _ e => ⟨_, He.frG_in, e⟩
  keeps _ _ _ x k := x.imp fun _ y => ⟨y.1.keeps k, y.2⟩
def obP (n : Nat) (gt : List (Str × Gb)) (T : List Ent) (s : PySem.W.SharedT) : AlP := obsP gt T (He.frG (HandSHeadRun.getT s) (He.asD (HandSHeadRun.getT s) n))
theorem obP_eq (n : Nat) (gt : List (Str × Gb)) (T : List Ent) (s : PySem.W.SharedT) : obP n gt T s = (hookP n gt T).obs s.abs := by
  have e : HandSHeadRun.getT s = s.abs.heap.get? := funext (HandSHeadRun.getT_eq s)
  unfold obP
  rw [e]
  rfl
def glOf (gt : List (Str × Gb)) : Str → Option Gb := fun x => gt.lookup x
theorem dv_v {K : PySem.W.Frag} : ∀ ds : List D, (ds.map dvOf).map (He.Dv.v K) = ds.map vOf
  | [] => rfl
  | d :: ds => by
    rw [List.map_cons, List.map_cons, List.map_cons, dv_v ds]
    congr 1
    cases d <;> rfl
/-- what is shown of each def apart from the head -/
structure EntS (kE kS : Nat) (gt : List (Str × Gb)) (cs : List Str) (T : List Ent) (e : Ent) : Prop where
  sc : e.kd.isMk = false → FnScope e.d.N e.d.ps (defScope e.d.st)
  df : e.dfl.all isScal = true
  body : e.kd.isMk = false → ∀ C : Fns, compS kE kS (ceOf (glOf gt) cs e.d C) (defBody e.d.st) = some (e.b C)
  bnd : e.kd.isMk = false → ∀ (K : PySem.W.Frag) (f : Addr) (fd : FuncData), FunD K e.d.nm e.qual (defArgs e.d.st) (defBody e.d.st) (defScope e.d.st) e.dvs [] f fd →
    ∀ sh ∈ e.shs, ∃ its, Vals e.dvs its ∧ ∀ (s : Shared) (us ws : List Value), K.In s.heap → us.length = sh.n → ws.length = sh.ks.length → BindsTo s fd ⟨us, sh.ks.zip ws⟩ (e.d.ps.zip (arr us ws its sh.src))
  mkk : ∀ fl i, e.kd = .mk fl i → ∃ e', entOf T i = some e' ∧ e'.kd = .mt e.g "__init__" ∧
    ∀ (K : PySem.W.Frag) (f : Addr) (fd : FuncData), FunD K e'.d.nm e'.qual (defArgs e'.d.st) (defBody e'.d.st) (defScope e'.d.st) e'.dvs [] f fd → ∀ (s : Shared) (us : List Value), K.In s.heap → us.length = e'.d.ps.length → BindsTo s fd ⟨us, []⟩ (e'.d.ps.zip us)
/-- the table of names is that of the defs -/
def tabB (gt : List (Str × Gb)) (T : List Ent) : Prop := ∀ x g, (x, g) ∈ gt → match g with
  | .fn dfl shs => ∃ e, entOf T x = some e ∧ e.kd = .fn ∧ e.dfl = dfl ∧ e.shs = shs
  | .mt c m dfl shs => ∃ e, entOf T x = some e ∧ e.kd = .mt c m ∧ e.dfl = dfl ∧ e.shs = shs
  | .mk fl => ∃ e i, entOf T x = some e ∧ e.kd = .mk fl i
  | _ => True
theorem says_ok {gt : List (Str × Gb)} {cs : List Str} {T : List Ent} {K : PySem.W.Frag} {mw : MW} {h : Heap} {kE kS : Nat} (KX : K.In h) (G : h.Ns mainGlobals mw.mg) (c : obsP gt T K = valP T) (hS : ∀ e ∈ T, EntS kE kS gt cs T e) (hT : tabB gt T) :
    (∀ e ∈ T, EntOk K mw kE kS (glOf gt) cs T e) ∧ ∀ x g, glOf gt x = some g → GlOk K mw T x g := by
  have c1 : chk gt T K = true := congrArg (fun z : AlP => z.1) c
  have c2 : (defsOf T).map (fun e => He.fnW K (ddOf e).at_) = (defsOf T).map fun e => (ddOf e).val := congrArg (fun z : AlP => z.2) c
  obtain ⟨c3, c4⟩ := Bool.and_eq_true_iff.mp c1
  have glo : ∀ {x : Str}, gloB K x = true → mw.mg x = some (.ref (He.ga K x)) := fun {x} z => PySem.W.mg_of KX G (of_decide_eq_true z)
  refine ⟨fun e he => ?_, fun x g hg => ?_⟩
  · have kb := List.all_eq_true.mp c4 e he
    have S := hS e he
    refine ⟨fun hk => ?_, fun fl i hk => ?_, S.sc, fun o => scal_rds S.df, S.body⟩
    · have hd : e ∈ defsOf T := List.mem_filter.mpr ⟨he, by rw [hk]; rfl⟩
      have k3 : He.fnW K (ddOf e).at_ = (ddOf e).val := List.map_inj_left.mp c2 e hd
      have k2 : (ddOf e).ok K = true := by
        unfold entB at kb
        split at kb
        · exact (Bool.and_eq_true_iff.mp kb).2
        · exact (Bool.and_eq_true_iff.mp (Bool.and_eq_true_iff.mp (Bool.and_eq_true_iff.mp kb).2).2).2
        · rename_i e2
          rw [e2] at hk
          cases hk
      obtain ⟨fd, F⟩ := He.DefD.funD k3 k2
      have F2 : FunD K e.d.nm e.qual (defArgs e.d.st) (defBody e.d.st) (defScope e.d.st) e.dvs [] (He.fAd K (atOf e)) fd := by
        have e1 : (ddOf e).dvs K = e.dvs := dv_v e.dfl
        rw [e1] at F
        exact F
      refine ⟨_, fd, ?_, F2, S.bnd hk K _ fd F2⟩
      unfold entB at kb
      cases hkd : e.kd with
      | fn =>
        rw [hkd] at kb
        have ha : atOf e = (e.g, none) := by unfold atOf; rw [hkd]
        have z := glo (Bool.and_eq_true_iff.mp kb).1
        refine ⟨?_, F2.kp⟩
        rw [ha]
        exact z
      | mt c m =>
        rw [hkd] at kb
        obtain ⟨k1, kb⟩ := Bool.and_eq_true_iff.mp kb
        obtain ⟨k4, kb⟩ := Bool.and_eq_true_iff.mp kb
        obtain ⟨k5, _⟩ := Bool.and_eq_true_iff.mp kb
        have ha : atOf e = (c, some m) := by unfold atOf; rw [hkd]
        refine ⟨He.ga K c, glo k1, He.cls_ok k4, ?_⟩
        rw [ha]
        exact He.meth_ok k5
      | mk fl i =>
        rw [hkd] at hk
        cases hk
    · unfold entB at kb
      rw [hk] at kb
      obtain ⟨k1, kb⟩ := Bool.and_eq_true_iff.mp kb
      obtain ⟨k2, kb⟩ := Bool.and_eq_true_iff.mp kb
      obtain ⟨k4, kb⟩ := Bool.and_eq_true_iff.mp kb
      obtain ⟨k5, k6⟩ := Bool.and_eq_true_iff.mp kb
      obtain ⟨e', h1, h2, h3⟩ := S.mkk fl i hk
      exact ⟨He.ga K e.g, glo k1, k2, k4, fun f hf => ⟨⟨He.ga K e.g, glo k1, He.cls_ok k5, He.noat_ok (List.all_eq_true.mp k6 f hf)⟩⟩, e', h1, h2, h3 K⟩
  · have hm : (x, g) ∈ gt := PySem.mem_of_lookup hg
    have k := List.all_eq_true.mp c3 (x, g) hm
    have t := hT x g hm
    cases g with
    | cst d =>
      have k : (match PySem.W.nsIn K mainGlobals x with
        | some (some u) => cstB K 8 u d
        | _ => false) = true := k
      split at k
      · rename_i u e
        obtain ⟨v, a1, a2⟩ := cstB_ok (mw := mw) 8 u d k
        exact ⟨v, u, PySem.W.mg_of KX G e, a1, a2⟩
      · cases k
    | free => exact PySem.W.mg_none_of KX G (of_decide_eq_true k)
    | fn dfl shs => exact t
    | mt c m dfl shs => exact t
    | mk fl => exact t
end PV
namespace PV
open L2 PyProof.Rows PySem PySem.Spec
def gbOf (e : Ent) : Gb := match e.kd with
  | .fn => .fn e.dfl e.shs
  | .mt c m => .mt c m e.dfl e.shs
  | .mk fl _ => .mk fl
def gtOf (base : List (Str × Gb)) (T : List Ent) : List (Str × Gb) := base ++ T.map fun e => (e.g, gbOf e)
def noFn : Gb → Bool
  | .cst _ => true
  | .free => true
  | _ => false
theorem entOf_of {T : List Ent} (hn : (T.map (·.g)).Nodup) {e : Ent} (he : e ∈ T) : entOf T e.g = some e := by
  unfold entOf
  induction T with
  | nil => cases he
  | cons t r ih =>
    have ⟨h1, h2⟩ := List.nodup_cons.mp hn
    cases he with
    | head => rw [List.find?_cons_of_pos (by simp)]
    | tail _ he =>
      have : ¬ (t.g == e.g) = true := fun z => h1 (List.mem_map.mpr ⟨e, he, (eq_of_beq z).symm⟩)
      rw [List.find?_cons_of_neg (p := fun x : Ent => x.g == e.g) this]
      exact ih h2 he
theorem tab_of {base : List (Str × Gb)} {T : List Ent} (hb : (base.all fun p => noFn p.2) = true) (hn : (T.map (·.g)).Nodup) : tabB (gtOf base T) T := by
  intro x g h
  match List.mem_append.mp h with
  | .inl h =>
    have z := List.all_eq_true.mp hb _ h
    cases g <;> first | exact trivial | exact nomatch z
  | .inr h =>
    obtain ⟨e, he, q⟩ := List.mem_map.mp h
    cases q
    have z := entOf_of hn he
    unfold gbOf
    cases hk : e.kd with
    | fn => exact ⟨e, z, hk, rfl, rfl⟩
    | mt c m => exact ⟨e, z, hk, rfl, rfl⟩
    | mk fl i => exact ⟨e, i, z, hk⟩
end PV

set_option Elab.async false
set_option linter.all false
set_option maxRecDepth 100000
set_option maxHeartbeats 3999000
namespace PV
open L2 PyProof.Rows PySem PySem.Spec

/-! ### values without places -/
inductive V0 where
  | non | bl (b : Bool) | int (i : Int) | str (x : Str) | tup (xs : List V0) | lst (xs : List V0) | ty (n : String) | gl (x : Str) | fz (xs : List V0)
/-- a value, the m-th thing that is still written, a tuple with such, the i-th row of the m-th thing -/
inductive W where
  | v (x : V0) | r (m : Nat) | t (ws : List W) | q (m i : Nat)
/-- what is still written, and what it holds: a list, dicts, an instance, a list of rows of its own -/
inductive HT where
  | lst (vs : List V0) | dk (kvs : List (Key × V0)) | dd (kvs : List (TK × V0)) | ins (c : Str) (fs : List (Str × W)) | ll (rows : List (List V0))
inductive HE where
  | live (h : HT) | cold (x : V0) | gone
abbrev Hot := List HE
structure X0 where
  cls : Str
  fs : List (Str × V0)
inductive Rs (α : Type) where
  | ok (a : α) (H : Hot) | exc (x : X0) (H : Hot) | stk
def Rs.bind {α β : Type} : Rs α → (α → Hot → Rs β) → Rs β
  | .ok a H, k => k a H
  | .exc x H, _ => .exc x H
  | .stk, _ => .stk
@[simp] theorem rb_ok {α β : Type} {a : α} {H : Hot} {k : α → Hot → Rs β} : (Rs.ok a H).bind k = k a H := by exact rfl
@[simp] theorem rb_exc {α β : Type} {x : X0} {H : Hot} {k : α → Hot → Rs β} : (Rs.exc x H : Rs α).bind k = .exc x H := by exact rfl
@[simp] theorem rb_stk {α β : Type} {k : α → Hot → Rs β} : (Rs.stk : Rs α).bind k = .stk := by exact rfl
abbrev WEnv := List (Option W)

/-! ### how a value lies: through no place of L -/
mutual
inductive Cv (L : Nat → Prop) (S : Sto) : D → V0 → Prop
  | non : Cv L S .non .non
  | bl (b : Bool) : Cv L S (.bl b) (.bl b)
  | int (i : Int) : Cv L S (.int i) (.int i)
  | str (x : Str) : Cv L S (.str x) (.str x)
  | tup {ds : List D} {xs : List V0} : Cvs L S ds xs → Cv L S (.tup ds) (.tup xs)
  | fz {ds : List D} {xs : List V0} : Cvs L S ds xs → Cv L S (.fz ds) (.fz xs)
  | loc {n : Nat} {ds : List D} {xs : List V0} : ¬ L n → S[n]? = some (.lst ds) → Cvs L S ds xs → Cv L S (.loc n) (.lst xs)
  | ty (n : String) : Cv L S (.ty n) (.ty n)
  | gl (x : Str) : Cv L S (.gl x) (.gl x)
inductive Cvs (L : Nat → Prop) (S : Sto) : List D → List V0 → Prop
  | nil : Cvs L S [] []
  | cons {d : D} {ds : List D} {x : V0} {xs : List V0} : Cv L S d x → Cvs L S ds xs → Cvs L S (d :: ds) (x :: xs)
end
/-- the store grows: what is no place of L stays, and is none of L' -/
structure Ext (L : Nat → Prop) (S : Sto) (L' : Nat → Prop) (S' : Sto) : Prop where
  len : S.length ≤ S'.length
  at_ : ∀ n, n < S.length → ¬ L n → S'[n]? = S[n]? ∧ ¬ L' n
theorem Ext.refl {L : Nat → Prop} {S : Sto} : Ext L S L S := ⟨Nat.le_refl _, fun _ _ h => ⟨rfl, h⟩⟩
theorem Ext.trans {L L' L'' : Nat → Prop} {S S' S'' : Sto} (a : Ext L S L' S') (b : Ext L' S' L'' S'') : Ext L S L'' S'' :=
  ⟨Nat.le_trans a.len b.len, fun n h z => let ⟨e1, z1⟩ := a.at_ n h z; let ⟨e2, z2⟩ := b.at_ n (Nat.lt_of_lt_of_le h a.len) z1; ⟨e2.trans e1, z2⟩⟩
theorem sub_ext {L L' : Nat → Prop} {S : Sto} (h : ∀ n, L' n → L n) : Ext L S L' S := ⟨Nat.le_refl _, fun n _ z => ⟨rfl, fun q => z (h n q)⟩⟩
theorem get_lt {S : Sto} {n : Nat} {o : SO} (h : S[n]? = some o) : n < S.length := (List.getElem?_eq_some_iff.mp h).1
section
variable {L L' : Nat → Prop} {S S' : Sto}
mutual
theorem Cv.up (e : Ext L S L' S') : ∀ {d : D} {x : V0}, Cv L S d x → Cv L' S' d x
  | _, _, .non => .non
  | _, _, .bl b => .bl b
  | _, _, .int i => .int i
  | _, _, .str x => .str x
  | _, _, .tup h => .tup (Cvs.up e h)
  | _, _, .fz h => .fz (Cvs.up e h)
  | _, _, .loc z h r => let q := e.at_ _ (get_lt h) z; .loc q.2 (q.1.trans h) (Cvs.up e r)
  | _, _, .ty n => .ty n
  | _, _, .gl n => .gl n
theorem Cvs.up (e : Ext L S L' S') : ∀ {ds : List D} {xs : List V0}, Cvs L S ds xs → Cvs L' S' ds xs
  | _, _, .nil => .nil
  | _, _, .cons h r => .cons (Cv.up e h) (Cvs.up e r)
end
/-- however it lies -/
abbrev Dv (S : Sto) : D → V0 → Prop := Cv (fun _ => False) S
abbrev Dvs (S : Sto) : List D → List V0 → Prop := Cvs (fun _ => False) S
theorem Cv.dv {d : D} {x : V0} (h : Cv L S d x) : Dv S d x := h.up (sub_ext fun _ z => z.elim)
theorem Cvs.dv {d : List D} {x : List V0} (h : Cvs L S d x) : Dvs S d x := h.up (sub_ext fun _ z => z.elim)
theorem Cvs.length : ∀ {ds : List D} {vs : List V0}, Cvs L S ds vs → ds.length = vs.length
  | _, _, .nil => rfl
  | _, _, .cons _ r => by rw [List.length_cons, List.length_cons, Cvs.length r]
theorem Cvs.get : ∀ {ds : List D} {vs : List V0} {i : Nat} {v : V0}, Cvs L S ds vs → vs[i]? = some v → ∃ d, ds[i]? = some d ∧ Cv L S d v
  | _, _, 0, _, .cons r _, e => by cases e; exact ⟨_, rfl, r⟩
  | _, _, i + 1, _, .cons _ t, e => Cvs.get (i := i) t e
theorem Cvs.append : ∀ {ds es : List D} {vs ws : List V0}, Cvs L S ds vs → Cvs L S es ws → Cvs L S (ds ++ es) (vs ++ ws)
  | _, _, _, _, .nil, s => s
  | _, _, _, _, .cons r t, s => .cons r (Cvs.append t s)
theorem Cvs.take : ∀ {ds : List D} {vs : List V0} (n : Nat), Cvs L S ds vs → Cvs L S (ds.take n) (vs.take n)
  | _, _, 0, _ => .nil
  | _, _, _ + 1, .nil => .nil
  | _, _, n + 1, .cons r t => .cons r (Cvs.take n t)
theorem Cvs.drop : ∀ {ds : List D} {vs : List V0} (n : Nat), Cvs L S ds vs → Cvs L S (ds.drop n) (vs.drop n)
  | _, _, 0, r => r
  | _, _, _ + 1, .nil => .nil
  | _, _, n + 1, .cons _ t => Cvs.drop n t
theorem Cvs.set {d : D} {v : V0} (r : Cv L S d v) : ∀ {ds : List D} {vs : List V0} (i : Nat), Cvs L S ds vs → Cvs L S (ds.set i d) (vs.set i v)
  | _, _, _, .nil => .nil
  | _, _, i + 1, .cons q t => .cons q (Cvs.set r i t)
  | _, _, 0, .cons _ t => .cons r t
theorem Cvs.eraseIdx : ∀ {ds : List D} {vs : List V0} (i : Nat), Cvs L S ds vs → Cvs L S (ds.eraseIdx i) (vs.eraseIdx i)
  | _, _, _, .nil => by simp; exact .nil
  | _, _, 0, .cons _ t => t
  | _, _, i + 1, .cons q t => .cons q (Cvs.eraseIdx i t)
theorem Cvs.reverse {ds : List D} {vs : List V0} (h : Cvs L S ds vs) : Cvs L S ds.reverse vs.reverse := by
  induction ds generalizing vs with
  | nil => cases h; exact .nil
  | cons d ds ih =>
    cases h with
    | cons r t => simpa using (ih t).append (.cons r .nil)
theorem Cvs.rep {ds : List D} {vs : List V0} (h : Cvs L S ds vs) : ∀ k : Nat, Cvs L S (List.replicate k ds).flatten (List.replicate k vs).flatten
  | 0 => .nil
  | k + 1 => by rw [List.replicate_succ, List.replicate_succ, List.flatten_cons, List.flatten_cons]; exact h.append (Cvs.rep h k)
theorem Cvs.dropLast {ds : List D} {vs : List V0} (h : Cvs L S ds vs) : Cvs L S ds.dropLast vs.dropLast := by
  rw [List.dropLast_eq_take, List.dropLast_eq_take, h.length]
  exact h.take _
end

/-! ### worlds -/
def KvR {κ : Type} (L : Nat → Prop) (S : Sto) : List (κ × D) → List (κ × V0) → Prop := Paired fun (p : κ × D) (q : κ × V0) => p.1 = q.1 ∧ Cv L S p.2 q.2
/-- a field -/
def Fr (L : Nat → Prop) (S : Sto) (rho : List D) (d : D) : W → Prop
  | .v x => Cv L S d x
  | .r j => rho[j]? = some d
  | _ => False
def FsR (L : Nat → Prop) (S : Sto) (rho : List D) : List (Str × D) → List (Str × W) → Prop := Paired fun (p : Str × D) (q : Str × W) => p.1 = q.1 ∧ Fr L S rho p.2 q.2
/-- rows of a list -/
def RwR (L : Nat → Prop) (S : Sto) : List Nat → List (List V0) → Prop := Paired fun (k : Nat) (row : List V0) => ∃ es, S[k]? = some (.lst es) ∧ Cvs L S es row
/-- what is still written, the places that it owns -/
def Hr (L : Nat → Prop) (S : Sto) (rho : List D) (d : D) : HT → List Nat → Prop
  | .lst vs, fp => ∃ n ds, d = .loc n ∧ fp = [n] ∧ S[n]? = some (.lst ds) ∧ Cvs L S ds vs
  | .dk kvs, fp => ∃ n ds, d = .loc n ∧ fp = [n] ∧ S[n]? = some (.dk ds) ∧ KvR L S ds kvs
  | .dd kvs, fp => ∃ n ds, d = .loc n ∧ fp = [n] ∧ S[n]? = some (.dd ds) ∧ KvR L S ds kvs
  | .ins c fs, fp => ∃ n ds, d = .loc n ∧ fp = [n] ∧ S[n]? = some (.ins c ds) ∧ FsR L S rho ds fs
  | .ll rows, fp => ∃ n ns, d = .loc n ∧ fp = n :: ns ∧ (n :: ns).Nodup ∧ S[n]? = some (.lst (ns.map .loc)) ∧ RwR L S ns rows
def Hc (L : Nat → Prop) (S : Sto) (rho : List D) (d : D) : HE → List Nat → Prop
  | .live h, fp => Hr L S rho d h fp
  | .cold x, fp => fp = [] ∧ Cv L S d x
  | .gone, fp => fp = []
structure Wo where
  out : Nat → Prop
  S : Sto
  H : Hot
  rho : List D
  fps : List (List Nat)
def Wo.Live (w : Wo) (n : Nat) : Prop := w.out n ∨ ∃ (m : Nat) (fp : List Nat), w.fps[m]? = some fp ∧ n ∈ fp
structure Gd (w : Wo) : Prop where
  l1 : w.rho.length = w.H.length
  l2 : w.fps.length = w.H.length
  ow : ∀ n, w.out n → n < w.S.length
  dis0 : ∀ (m : Nat) (fp : List Nat) (n : Nat), w.fps[m]? = some fp → n ∈ fp → ¬ w.out n
  dis : ∀ (m m' : Nat) (fp fp' : List Nat) (n : Nat), w.fps[m]? = some fp → w.fps[m']? = some fp' → n ∈ fp → n ∈ fp' → m = m'
  ob : ∀ (m : Nat) (e : HE), w.H[m]? = some e → ∃ (d : D) (fp : List Nat), w.rho[m]? = some d ∧ w.fps[m]? = some fp ∧ Hc w.Live w.S w.rho d e fp
/-- a row: while the thing stands, or it never was one of rows -/
def Wo.rowAt (w : Wo) (m i : Nat) (d : D) : Prop := match w.H[m]? with
  | some (.live (.ll _)) => ∃ n ds, w.rho[m]? = some (.loc n) ∧ w.S[n]? = some (.lst ds) ∧ ds[i]? = some d
  | some (.live _) => False
  | some _ => True
  | none => False
structure Up (w w' : Wo) : Prop where
  ext : Ext w.Live w.S w'.Live w'.S
  rho : ∀ (m : Nat) (d : D), w.rho[m]? = some d → w'.rho[m]? = some d
  out : ∀ n, w'.out n ↔ w.out n
  fr : ∀ n, w.out n → w'.S[n]? = w.S[n]?
  row : ∀ (m i : Nat) (d : D), w.rowAt m i d → w'.rowAt m i d
theorem Up.refl {w : Wo} : Up w w := ⟨.refl, fun _ _ h => h, fun _ => Iff.rfl, fun _ _ => rfl, fun _ _ _ h => h⟩
theorem Up.trans {a b c : Wo} (x : Up a b) (y : Up b c) : Up a c := ⟨x.ext.trans y.ext, fun m d h => y.rho m d (x.rho m d h), fun n => (y.out n).trans (x.out n), fun n h => (y.fr n ((x.out n).mpr h)).trans (x.fr n h), fun m i d h => y.row m i d (x.row m i d h)⟩
mutual
inductive Wr (w : Wo) : D → W → Prop
  | v {d : D} {x : V0} : Cv w.Live w.S d x → Wr w d (.v x)
  | r {d : D} {m : Nat} : w.rho[m]? = some d → Wr w d (.r m)
  | t {ds : List D} {ws : List W} : Wrs w ds ws → Wr w (.tup ds) (.t ws)
  | q {d : D} {m i : Nat} : w.rowAt m i d → Wr w d (.q m i)
inductive Wrs (w : Wo) : List D → List W → Prop
  | nil : Wrs w [] []
  | cons {d : D} {ds : List D} {x : W} {xs : List W} : Wr w d x → Wrs w ds xs → Wrs w (d :: ds) (x :: xs)
end
mutual
theorem Wr.up {w w' : Wo} (u : Up w w') : ∀ {d : D} {x : W}, Wr w d x → Wr w' d x
  | _, _, .v h => .v (h.up u.ext)
  | _, _, .r h => .r (u.rho _ _ h)
  | _, _, .t h => .t (Wrs.up u h)
  | _, _, .q h => .q (u.row _ _ _ h)
theorem Wrs.up {w w' : Wo} (u : Up w w') : ∀ {d : List D} {x : List W}, Wrs w d x → Wrs w' d x
  | _, _, .nil => .nil
  | _, _, .cons h r => .cons (Wr.up u h) (Wrs.up u r)
end
theorem Wrs.length {w : Wo} : ∀ {ds : List D} {vs : List W}, Wrs w ds vs → ds.length = vs.length
  | _, _, .nil => rfl
  | _, _, .cons _ r => by rw [List.length_cons, List.length_cons, Wrs.length r]
theorem Wrs.get {w : Wo} : ∀ {ds : List D} {vs : List W} {i : Nat} {v : W}, Wrs w ds vs → vs[i]? = some v → ∃ d, ds[i]? = some d ∧ Wr w d v
  | _, _, 0, _, .cons r _, e => by cases e; exact ⟨_, rfl, r⟩
  | _, _, i + 1, _, .cons _ t, e => Wrs.get (i := i) t e
theorem Wrs.append {w : Wo} : ∀ {ds es : List D} {vs ws : List W}, Wrs w ds vs → Wrs w es ws → Wrs w (ds ++ es) (vs ++ ws)
  | _, _, _, _, .nil, s => s
  | _, _, _, _, .cons r t, s => .cons r (Wrs.append t s)
structure Er (w : Wo) (env : Env) (we : WEnv) : Prop where
  len : env.length = we.length
  val : ∀ (i : Nat) (x : W), we[i]? = some (some x) → ∃ d, env[i]? = some (some d) ∧ Wr w d x
theorem Er.up {w w' : Wo} (u : Up w w') {env : Env} {we : WEnv} (e : Er w env we) : Er w' env we := ⟨e.len, fun i x h => let ⟨d, a, b⟩ := e.val i x h; ⟨d, a, b.up u⟩⟩
theorem Er.set {w : Wo} {env : Env} {we : WEnv} {d : D} {x : W} (e : Er w env we) (i : Nat) (h : Wr w d x) : Er w (env.set i (some d)) (we.set i (some x)) := by
  refine ⟨by simp [e.len], fun j y hj => ?_⟩
  by_cases hij : i = j
  · subst hij
    by_cases hl : i < we.length
    · rw [List.getElem?_set_self hl] at hj
      cases hj
      exact ⟨d, List.getElem?_set_self (by rw [e.len]; exact hl), h⟩
    · rw [List.getElem?_eq_none (by simpa using hl)] at hj
      cases hj
  · rw [List.getElem?_set_ne hij] at hj ⊢
    exact e.val j y hj
def Xr (w : Wo) (x : Ex) (y : X0) : Prop := x.cls = y.cls ∧ Paired (fun (p : Str × D) (q : Str × V0) => p.1 = q.1 ∧ Cv w.Live w.S p.2 q.2) x.fs y.fs

/-! ### runs side by side -/
def Sm {α β : Type} (R : Wo → α → β → Prop) (w : Wo) (o : Out α) : Rs β → Prop
  | .ok b H' => ∃ a w', o = .ok a w'.S ∧ w'.H = H' ∧ Gd w' ∧ Up w w' ∧ R w' a b
  | .exc y H' => ∃ x w', o = .exc x w'.S ∧ w'.H = H' ∧ Gd w' ∧ Up w w' ∧ Xr w' x y
  | .stk => True
theorem Sm.ok {α β : Type} {R : Wo → α → β → Prop} {w : Wo} {a : α} {b : β} (g : Gd w) (h : R w a b) : Sm R w (.ok a w.S) (.ok b w.H) := ⟨a, w, rfl, rfl, g, .refl, h⟩
theorem Sm.to {α β : Type} {R : Wo → α → β → Prop} {w w' : Wo} {a : α} {b : β} {S' : Sto} {H' : Hot} (g : Gd w') (u : Up w w') (h : R w' a b) (eS : S' = w'.S) (eH : H' = w'.H) : Sm R w (.ok a S') (.ok b H') := by
  subst eS eH
  exact ⟨a, w', rfl, rfl, g, u, h⟩
theorem Sm.bind {α β γ δ : Type} {R : Wo → α → β → Prop} {R' : Wo → γ → δ → Prop} {w : Wo} {o : Out α} {p : Rs β} {k : α → Sto → Out γ} {k' : β → Hot → Rs δ} (h : Sm R w o p)
    (hk : ∀ w' a b, Gd w' → Up w w' → R w' a b → Sm R' w' (k a w'.S) (k' b w'.H)) : Sm R' w (o.bind k) (p.bind k') := by
  cases p with
  | ok b H' =>
    obtain ⟨a, w', rfl, rfl, g, u, r⟩ := h
    have q := hk w' a b g u r
    show Sm R' w (k a w'.S) (k' b w'.H)
    revert q
    cases k' b w'.H with
    | ok c H2 => exact fun ⟨c', w2, e, e2, g2, u2, r2⟩ => ⟨c', w2, e, e2, g2, u.trans u2, r2⟩
    | exc y H2 => exact fun ⟨c', w2, e, e2, g2, u2, r2⟩ => ⟨c', w2, e, e2, g2, u.trans u2, r2⟩
    | stk => exact fun _ => trivial
  | exc y H' =>
    obtain ⟨x, w', rfl, rfl, g, u, r⟩ := h
    exact ⟨x, w', rfl, rfl, g, u, r⟩
  | stk => exact trivial
theorem Sm.imp {α β : Type} {R R' : Wo → α → β → Prop} {w : Wo} {o : Out α} {p : Rs β} (h : Sm R w o p) (f : ∀ w' a b, Gd w' → Up w w' → R w' a b → R' w' a b) : Sm R' w o p := by
  cases p with
  | ok b H' => obtain ⟨a, w', e, e2, g, u, r⟩ := h; exact ⟨a, w', e, e2, g, u, f _ _ _ g u r⟩
  | exc y H' => exact h
  | stk => exact trivial

/-! ### changes of a world -/
section
variable {w : Wo}
theorem RwR.lt {L : Nat → Prop} {S : Sto} : ∀ {ns : List Nat} {rows : List (List V0)}, RwR L S ns rows → ∀ n ∈ ns, n < S.length
  | _, _, .nil, _, h => nomatch h
  | _, _, .cons ⟨es, e, _⟩ t, n, h => by
    rcases List.mem_cons.mp h with rfl | h
    · exact get_lt e
    · exact RwR.lt t n h
theorem Hr.live {L : Nat → Prop} {S : Sto} {rho : List D} {d : D} {h : HT} {fp : List Nat} (r : Hr L S rho d h fp) : ∀ n ∈ fp, n < S.length := by
  cases h with
  | lst vs => obtain ⟨n, ds, rfl, rfl, e, _⟩ := r; intro k hk; rw [List.mem_singleton.mp hk]; exact get_lt e
  | dk kvs => obtain ⟨n, o, rfl, rfl, e, _⟩ := r; intro k hk; rw [List.mem_singleton.mp hk]; exact get_lt e
  | dd kvs => obtain ⟨n, o, rfl, rfl, e, _⟩ := r; intro k hk; rw [List.mem_singleton.mp hk]; exact get_lt e
  | ins c fs => obtain ⟨n, o, rfl, rfl, e, _⟩ := r; intro k hk; rw [List.mem_singleton.mp hk]; exact get_lt e
  | ll rows =>
    obtain ⟨n, ns, rfl, rfl, _, e, q⟩ := r
    intro k hk
    rcases List.mem_cons.mp hk with rfl | hk
    · exact get_lt e
    · exact q.lt k hk
theorem Hc.live {L : Nat → Prop} {S : Sto} {rho : List D} {d : D} {h : HE} {fp : List Nat} (r : Hc L S rho d h fp) : ∀ n ∈ fp, n < S.length := by
  cases h with
  | live h => exact Hr.live r
  | cold x => obtain ⟨rfl, _⟩ := r; intro n h; cases h
  | gone => intro n h; rw [show fp = [] from r] at h; cases h
theorem Gd.lt (g : Gd w) {n : Nat} (h : w.Live n) : n < w.S.length := by
  rcases h with h | ⟨m, fp, e, hn⟩
  · exact g.ow n h
  have hm : m < w.H.length := by rw [← g.l2]; exact (List.getElem?_eq_some_iff.mp e).1
  obtain ⟨d, fp', _, e2, q⟩ := g.ob m w.H[m] (List.getElem?_eq_getElem hm)
  rw [e] at e2
  cases e2
  exact q.live n hn
theorem KvR.up {κ : Type} {L L' : Nat → Prop} {S S' : Sto} (e : Ext L S L' S') {kvs : List (κ × V0)} {o : List (κ × D)} (h : KvR L S o kvs) : KvR L' S' o kvs := Paired.mapP h fun p q ⟨a, b⟩ => ⟨a, b.up e⟩
/-- names within a thing -/
def mapF (f : Nat → Nat) : List (Str × W) → List (Str × W)
  | [] => []
  | (x, .r j) :: r => (x, .r (f j)) :: mapF f r
  | (x, y) :: r => (x, y) :: mapF f r
def HE.mapR (f : Nat → Nat) : HE → HE
  | .live (.ins c fs) => .live (.ins c (mapF f fs))
  | .live (.lst vs) => .live (.lst vs)
  | .live (.dk vs) => .live (.dk vs)
  | .live (.dd vs) => .live (.dd vs)
  | .live (.ll vs) => .live (.ll vs)
  | .cold x => .cold x
  | .gone => .gone
def refsF : List (Str × W) → List Nat
  | [] => []
  | (_, .r j) :: r => j :: refsF r
  | _ :: r => refsF r
def HE.refs : HE → List Nat
  | .live (.ins _ fs) => refsF fs
  | _ => []
theorem FsR.ren {L L' : Nat → Prop} {S S' : Sto} {rho rho' : List D} (e : Ext L S L' S') (f : Nat → Nat) : ∀ {ds : List (Str × D)} {fs : List (Str × W)}, (∀ j ∈ refsF fs, ∀ d, rho[j]? = some d → rho'[f j]? = some d) → FsR L S rho ds fs → FsR L' S' rho' ds (mapF f fs)
  | _, _, _, .nil => .nil
  | _, (x, .v y) :: r, h, .cons ⟨a, b⟩ t => .cons ⟨a, Cv.up e b⟩ (FsR.ren e f (fun j hj => h j hj) t)
  | _, (x, .r j) :: r, h, .cons ⟨a, b⟩ t => .cons ⟨a, h j List.mem_cons_self _ b⟩ (FsR.ren e f (fun j hj => h j (List.mem_cons_of_mem _ hj)) t)
  | _, (x, .t _) :: r, h, .cons ⟨a, b⟩ t => b.elim
  | _, (x, .q _ _) :: r, h, .cons ⟨a, b⟩ t => b.elim
theorem mapF_id : ∀ fs : List (Str × W), mapF (fun j => j) fs = fs
  | [] => rfl
  | (x, .r j) :: r => by rw [mapF, mapF_id r]
  | (x, .v j) :: r => by rw [mapF, mapF_id r]; intro _ z; cases z
  | (x, .t j) :: r => by rw [mapF, mapF_id r]; intro _ z; cases z
  | (x, .q i j) :: r => by rw [mapF, mapF_id r]; intro _ z; cases z
theorem mapR_id (e : HE) : e.mapR (fun j => j) = e := by
  cases e with
  | live h => cases h <;> first | rfl | (show HE.live (.ins _ (mapF _ _)) = _; rw [mapF_id])
  | _ => rfl
theorem RwR.up {L L' : Nat → Prop} {S S' : Sto} (e : Ext L S L' S') : ∀ {ns : List Nat} {rows : List (List V0)}, (∀ n ∈ ns, S'[n]? = S[n]?) → RwR L S ns rows → RwR L' S' ns rows
  | _, _, _, .nil => .nil
  | _, _, h, .cons ⟨es, a, b⟩ t => .cons ⟨es, (h _ List.mem_cons_self).trans a, b.up e⟩ (RwR.up e (fun n hn => h n (List.mem_cons_of_mem _ hn)) t)
theorem Hc.ren {L L' : Nat → Prop} {S S' : Sto} {rho rho' : List D} {d : D} {h : HE} {fp : List Nat} (e : Ext L S L' S') (f : Nat → Nat) (hr : ∀ j ∈ h.refs, ∀ d, rho[j]? = some d → rho'[f j]? = some d) (hf : ∀ n ∈ fp, S'[n]? = S[n]?) (r : Hc L S rho d h fp) : Hc L' S' rho' d (h.mapR f) fp := by
  cases h with
  | live h =>
    cases h with
    | lst vs => obtain ⟨n, ds, rfl, rfl, q, c⟩ := r; exact ⟨n, ds, rfl, rfl, (hf n (List.mem_singleton.mpr rfl)).trans q, c.up e⟩
    | dk kvs => obtain ⟨n, o, rfl, rfl, q, c⟩ := r; exact ⟨n, o, rfl, rfl, (hf n (List.mem_singleton.mpr rfl)).trans q, c.up e⟩
    | dd kvs => obtain ⟨n, o, rfl, rfl, q, c⟩ := r; exact ⟨n, o, rfl, rfl, (hf n (List.mem_singleton.mpr rfl)).trans q, c.up e⟩
    | ins c fs => obtain ⟨n, o, rfl, rfl, q, c⟩ := r; exact ⟨n, o, rfl, rfl, (hf n (List.mem_singleton.mpr rfl)).trans q, FsR.ren e f hr c⟩
    | ll rows => obtain ⟨n, ns, rfl, rfl, nd, q, c⟩ := r; exact ⟨n, ns, rfl, rfl, nd, (hf n List.mem_cons_self).trans q, c.up e fun k hk => hf k (List.mem_cons_of_mem _ hk)⟩
  | cold x => exact ⟨r.1, r.2.up e⟩
  | gone => exact r
theorem Hc.up {L L' : Nat → Prop} {S S' : Sto} {rho rho' : List D} {d : D} {h : HE} {fp : List Nat} (e : Ext L S L' S') (hr : ∀ (j : Nat) (d : D), rho[j]? = some d → rho'[j]? = some d) (hf : ∀ n ∈ fp, S'[n]? = S[n]?) (r : Hc L S rho d h fp) : Hc L' S' rho' d h fp := by
  have := r.ren e (fun j => j) (fun j _ d => hr j d) hf
  rw [mapR_id] at this
  exact this
/-- rows stay where nothing changes -/
theorem row_lt {m i : Nat} {d : D} (h : w.rowAt m i d) : m < w.H.length := by
  by_cases hl : m < w.H.length
  · exact hl
  · unfold Wo.rowAt at h
    rw [List.getElem?_eq_none (Nat.le_of_not_lt hl)] at h
    exact h.elim
theorem row_same {w' : Wo} {m i : Nat} {d : D} (hH : m < w.H.length → w'.H[m]? = w.H[m]?) (hr : ∀ d, w.rho[m]? = some d → w'.rho[m]? = some d) (hS : ∀ (rows : List (List V0)) (n : Nat) (o : SO), w.H[m]? = some (.live (.ll rows)) → w.rho[m]? = some (.loc n) → w.S[n]? = some o → w'.S[n]? = some o) (h : w.rowAt m i d) : w'.rowAt m i d := by
  have hl := row_lt h
  unfold Wo.rowAt at h ⊢
  rw [hH hl]
  split at h
  · rename_i e
    obtain ⟨n, ds, a, b, c⟩ := h
    exact ⟨n, ds, hr _ a, hS _ n _ e a b, c⟩
  · exact h.elim
  · trivial
  · exact h.elim
/-- the places of a thing of rows are its own -/
theorem row_live (g : Gd w) {m n : Nat} {rows : List (List V0)} (h : w.H[m]? = some (.live (.ll rows))) (hr : w.rho[m]? = some (.loc n)) : ∃ fp, w.fps[m]? = some fp ∧ n ∈ fp := by
  obtain ⟨d, fp, e1, e2, k, ns, rfl, rfl, _⟩ := g.ob m _ h
  rw [hr] at e1
  cases e1
  exact ⟨_, e2, List.mem_cons_self⟩
/-- new things that nobody writes -/
def Wo.app (w : Wo) (G : Sto) : Wo := { w with S := w.S ++ G }
theorem Gd.app_ext (g : Gd w) (G : Sto) : Ext w.Live w.S w.Live (w.S ++ G) := ⟨by simp, fun n h z => ⟨List.getElem?_append_left h, z⟩⟩
theorem Gd.app (g : Gd w) (G : Sto) : Gd (w.app G) := by
  refine ⟨g.l1, g.l2, fun n h => Nat.lt_of_lt_of_le (g.ow n h) (g.app_ext G).len, g.dis0, g.dis, fun m e h => ?_⟩
  obtain ⟨d, fp, e1, e2, q⟩ := g.ob m e h
  exact ⟨d, fp, e1, e2, q.up (g.app_ext G) (fun _ _ h => h) fun n hn => List.getElem?_append_left (g.lt (.inr ⟨m, fp, e2, hn⟩))⟩
theorem app_get {S G : Sto} {n : Nat} {o : SO} (h : S[n]? = some o) : (S ++ G)[n]? = some o := by rw [List.getElem?_append_left (get_lt h)]; exact h
theorem Up.app (g : Gd w) (G : Sto) : Up w (w.app G) := ⟨g.app_ext G, fun _ _ h => h, fun _ => Iff.rfl, fun n h => List.getElem?_append_left (g.ow n h), fun m i d h => row_same (w := w) (fun _ => rfl) (fun _ e => e) (fun _ _ _ _ _ e => app_get e) h⟩
/-- a new thing that is written -/
def Wo.new (w : Wo) (h : HT) (o : SO) : Wo := { out := w.out, S := w.S ++ [o], H := w.H ++ [.live h], rho := w.rho ++ [.loc w.S.length], fps := w.fps ++ [[w.S.length]] }
theorem live_new {h : HT} {o : SO} {n : Nat} : (w.new h o).Live n ↔ w.Live n ∨ n = w.S.length := by
  constructor
  · rintro (h | ⟨m, fp, e, hn⟩)
    · exact .inl (.inl h)
    have e : (w.fps ++ [[w.S.length]])[m]? = some fp := e
    by_cases hm : m < w.fps.length
    · rw [List.getElem?_append_left hm] at e
      exact .inl (.inr ⟨m, fp, e, hn⟩)
    · have hl := (List.getElem?_eq_some_iff.mp e).1
      have : m = w.fps.length := by simp at hl; omega
      subst this
      simp at e
      subst e
      exact .inr (by simpa using hn)
  · rintro ((h | ⟨m, fp, e, hn⟩) | rfl)
    · exact .inl h
    · exact .inr ⟨m, fp, by show (w.fps ++ _)[m]? = _; rw [List.getElem?_append_left (List.getElem?_eq_some_iff.mp e).1]; exact e, hn⟩
    · exact .inr ⟨w.fps.length, [w.S.length], by show (w.fps ++ _)[_]? = _; simp, by simp⟩
theorem new_ext (g : Gd w) {h : HT} {o : SO} : Ext w.Live w.S (w.new h o).Live (w.S ++ [o]) :=
  ⟨by simp, fun n hn z => ⟨List.getElem?_append_left hn, fun q => by rcases live_new.mp q with q | q; exact z q; omega⟩⟩
theorem Up.new (g : Gd w) {h : HT} {o : SO} : Up w (w.new h o) := by
  have hr : ∀ (m : Nat) (d : D), w.rho[m]? = some d → (w.new h o).rho[m]? = some d := fun m d e => by show (w.rho ++ _)[m]? = _; rw [List.getElem?_append_left (List.getElem?_eq_some_iff.mp e).1]; exact e
  exact ⟨new_ext g, hr, fun _ => Iff.rfl, fun n h => List.getElem?_append_left (g.ow n h), fun m i d h => row_same (w := w) (fun hl => List.getElem?_append_left hl) (hr m) (fun _ _ _ _ _ e => app_get e) h⟩
theorem Gd.new (g : Gd w) {h : HT} {o : SO} (q : Hr (w.new h o).Live (w.S ++ [o]) (w.new h o).rho (.loc w.S.length) h [w.S.length]) : Gd (w.new h o) := by
  refine ⟨?_, ?_, fun k hk => Nat.lt_of_lt_of_le (g.ow k hk) (new_ext (h := h) g).len, ?_, ?_, ?_⟩
  · show (w.rho ++ _).length = (w.H ++ _).length; simp [g.l1]
  · show (w.fps ++ _).length = (w.H ++ _).length; simp [g.l2]
  · intro m fp n e hn ho
    have e : (w.fps ++ [[w.S.length]])[m]? = some fp := e
    have hlt := g.ow n ho
    by_cases hm : m < w.fps.length
    · rw [List.getElem?_append_left hm] at e
      exact g.dis0 m fp n e hn ho
    · have hl := (List.getElem?_eq_some_iff.mp e).1
      have : m = w.fps.length := by simp at hl; omega
      subst this
      simp at e
      subst e
      have : n = w.S.length := by simpa using hn
      omega
  · intro m m' fp fp' n e1 e2 h1 h2
    have e1 : (w.fps ++ [[w.S.length]])[m]? = some fp := e1
    have e2 : (w.fps ++ [[w.S.length]])[m']? = some fp' := e2
    have key : ∀ (m : Nat) (fp : List Nat), (w.fps ++ [[w.S.length]])[m]? = some fp → n ∈ fp → (w.fps[m]? = some fp ∧ n < w.S.length) ∨ (m = w.fps.length ∧ n = w.S.length) := fun m fp e hn => by
      by_cases hm : m < w.fps.length
      · rw [List.getElem?_append_left hm] at e
        exact .inl ⟨e, g.lt (.inr ⟨m, fp, e, hn⟩)⟩
      · have hl := (List.getElem?_eq_some_iff.mp e).1
        have : m = w.fps.length := by simp at hl; omega
        subst this
        simp at e
        subst e
        exact .inr ⟨rfl, by simpa using hn⟩
    rcases key m fp e1 h1 with ⟨a1, a2⟩ | ⟨a1, a2⟩ <;> rcases key m' fp' e2 h2 with ⟨b1, b2⟩ | ⟨b1, b2⟩
    · exact g.dis m m' fp fp' n a1 b1 h1 h2
    · omega
    · omega
    · omega
  · intro m e he
    have he : (w.H ++ [.live h])[m]? = some e := he
    by_cases hm : m < w.H.length
    · rw [List.getElem?_append_left hm] at he
      obtain ⟨d, fp, e1, e2, q'⟩ := g.ob m e he
      refine ⟨d, fp, (Up.new g).rho m d e1, ?_, q'.up (new_ext g) (Up.new g).rho fun n hn => List.getElem?_append_left (g.lt (.inr ⟨m, fp, e2, hn⟩))⟩
      show (w.fps ++ _)[m]? = _
      rw [List.getElem?_append_left (List.getElem?_eq_some_iff.mp e2).1]; exact e2
    · have hl := (List.getElem?_eq_some_iff.mp he).1
      have : m = w.H.length := by simp at hl; omega
      subst this
      simp at he
      subst he
      refine ⟨.loc w.S.length, [w.S.length], ?_, ?_, q⟩
      · show (w.rho ++ _)[_]? = _; rw [← g.l1]; simp
      · show (w.fps ++ _)[_]? = _; rw [← g.l2]; simp
theorem Gd.newL (g : Gd w) {ds : List D} {vs : List V0} (c : Cvs w.Live w.S ds vs) : Gd (w.new (.lst vs) (.lst ds)) :=
  g.new ⟨w.S.length, ds, rfl, rfl, by simp, c.up (new_ext g)⟩
theorem new_r {h : HT} {o : SO} (g : Gd w) : Wr (w.new h o) (.loc w.S.length) (.r w.H.length) := .r (by show (w.rho ++ _)[_]? = _; rw [← g.l1]; simp)

/-! one thing changes, another one may go into it -/
def Wo.chg (w : Wo) (m j : Nat) (e : HE) (fp : List Nat) (S' : Sto) : Wo := { w with S := S', H := (w.H.set j .gone).set m e, fps := (w.fps.set j []).set m fp }
structure Chg (w : Wo) (m j : Nat) (e : HE) (fp fm fj : List Nat) (d : D) (S' : Sto) : Prop where
  rm : w.rho[m]? = some d
  pm : w.fps[m]? = some fm
  pj : w.fps[j]? = some fj
  len : w.S.length ≤ S'.length
  same : ∀ n, n < w.S.length → n ∉ fm → n ∉ fj → S'[n]? = w.S[n]?
  sub : ∀ n ∈ fp, n ∈ fm ∨ n ∈ fj ∨ w.S.length ≤ n
  top : ∀ n ∈ fp, n < S'.length
section
variable {m j : Nat} {e : HE} {fp fm fj : List Nat} {d : D} {S' : Sto}
theorem chg_fps (c : Chg w m j e fp fm fj d S') {k : Nat} {f : List Nat} {n : Nat} (h : (w.chg m j e fp S').fps[k]? = some f) (hn : n ∈ f) : (k = m ∧ f = fp) ∨ (k ≠ m ∧ k ≠ j ∧ w.fps[k]? = some f) := by
  have h : ((w.fps.set j []).set m fp)[k]? = some f := h
  by_cases hk : m = k
  · subst hk
    rw [List.getElem?_set_self (by have := (List.getElem?_eq_some_iff.mp c.pm).1; simpa using this)] at h
    cases h
    exact .inl ⟨rfl, rfl⟩
  · rw [List.getElem?_set_ne hk] at h
    by_cases hj : j = k
    · subst hj
      rw [List.getElem?_set_self (List.getElem?_eq_some_iff.mp c.pj).1] at h
      cases h
      cases hn
    · rw [List.getElem?_set_ne hj] at h
      exact .inr ⟨Ne.symm hk, Ne.symm hj, h⟩
theorem chg_live (c : Chg w m j e fp fm fj d S') {n : Nat} (h : (w.chg m j e fp S').Live n) : w.Live n ∨ w.S.length ≤ n := by
  rcases h with h | ⟨k, f, hk, hn⟩
  · exact .inl (.inl h)
  · rcases chg_fps c hk hn with ⟨rfl, rfl⟩ | ⟨_, _, q⟩
    · rcases c.sub n hn with h | h | h
      · exact .inl (.inr ⟨_, fm, c.pm, h⟩)
      · exact .inl (.inr ⟨_, fj, c.pj, h⟩)
      · exact .inr h
    · exact .inl (.inr ⟨k, f, q, hn⟩)
theorem chg_ext (c : Chg w m j e fp fm fj d S') : Ext w.Live w.S (w.chg m j e fp S').Live S' :=
  ⟨c.len, fun n hn z => ⟨c.same n hn (fun q => z (.inr ⟨m, fm, c.pm, q⟩)) (fun q => z (.inr ⟨j, fj, c.pj, q⟩)), fun q => by rcases chg_live c q with q | q; exact z q; omega⟩⟩
theorem chg_H (c : Chg w m j e fp fm fj d S') (g : Gd w) : (w.chg m j e fp S').H[m]? = some e := by
  show ((w.H.set j .gone).set m e)[m]? = _
  exact List.getElem?_set_self (by have := (List.getElem?_eq_some_iff.mp c.pm).1; rw [g.l2] at this; simpa using this)
theorem Gd.chg (g : Gd w) (c : Chg w m j e fp fm fj d S') (q : Hc (w.chg m j e fp S').Live S' w.rho d e fp) : Gd (w.chg m j e fp S') := by
  have hm : m < w.H.length := by rw [← g.l2]; exact (List.getElem?_eq_some_iff.mp c.pm).1
  have hj : j < w.H.length := by rw [← g.l2]; exact (List.getElem?_eq_some_iff.mp c.pj).1
  refine ⟨?_, ?_, fun n h => Nat.lt_of_lt_of_le (g.ow n h) c.len, ?_, ?_, ?_⟩
  · show w.rho.length = ((w.H.set j _).set m _).length; simp [g.l1]
  · show ((w.fps.set j _).set m _).length = ((w.H.set j _).set m _).length; simp [g.l2]
  · intro k f n hk hn ho
    rcases chg_fps c hk hn with ⟨rfl, rfl⟩ | ⟨_, _, q⟩
    · rcases c.sub n hn with h | h | h
      · exact g.dis0 _ fm n c.pm h ho
      · exact g.dis0 _ fj n c.pj h ho
      · exact absurd (g.ow n ho) (by omega)
    · exact g.dis0 k f n q hn ho
  · intro k k' f f' n hk hk' hn hn'
    rcases chg_fps c hk hn with ⟨rfl, rfl⟩ | ⟨z1, z2, y⟩ <;> rcases chg_fps c hk' hn' with ⟨rfl, rfl⟩ | ⟨z1', z2', q'⟩
    · rfl
    · rcases c.sub n hn with h | h | h
      · exact absurd (g.dis _ k' fm f' n c.pm q' h hn') (Ne.symm z1')
      · exact absurd (g.dis _ k' fj f' n c.pj q' h hn') (Ne.symm z2')
      · exact absurd (g.lt (.inr ⟨k', f', q', hn'⟩)) (by omega)
    · rcases c.sub n hn' with h | h | h
      · exact absurd (g.dis _ k fm f n c.pm y h hn) (Ne.symm z1)
      · exact absurd (g.dis _ k fj f n c.pj y h hn) (Ne.symm z2)
      · exact absurd (g.lt (.inr ⟨k, f, y, hn⟩)) (by omega)
    · exact g.dis k k' f f' n y q' hn hn'
  · intro k x hx
    have hx : ((w.H.set j .gone).set m e)[k]? = some x := hx
    by_cases hk : m = k
    · subst hk
      rw [List.getElem?_set_self (by simpa using hm)] at hx
      cases hx
      exact ⟨d, fp, c.rm, by show ((w.fps.set j []).set m fp)[m]? = _; rw [List.getElem?_set_self (by rw [List.length_set, g.l2]; exact hm)], q⟩
    · rw [List.getElem?_set_ne hk] at hx
      by_cases hjk : j = k
      · subst hjk
        rw [List.getElem?_set_self hj] at hx
        cases hx
        obtain ⟨d', f', a1, a2, a3⟩ := g.ob j w.H[j] (List.getElem?_eq_getElem hj)
        exact ⟨d', [], a1, by show ((w.fps.set j []).set m fp)[j]? = _; rw [List.getElem?_set_ne hk, List.getElem?_set_self (by rw [g.l2]; exact hj)], rfl⟩
      · rw [List.getElem?_set_ne hjk] at hx
        obtain ⟨d', f', a1, a2, a3⟩ := g.ob k x hx
        refine ⟨d', f', a1, by show ((w.fps.set j []).set m fp)[k]? = _; rw [List.getElem?_set_ne hk, List.getElem?_set_ne hjk]; exact a2, a3.up (chg_ext c) (fun _ _ h => h) fun n hn => c.same n (a3.live n hn) (fun z => hk (g.dis m k fm f' n c.pm a2 z hn)) (fun z => hjk (g.dis j k fj f' n c.pj a2 z hn))⟩
theorem Up.chg (g : Gd w) (c : Chg w m j e fp fm fj d S') (hrow : ∀ i d', w.rowAt m i d' → (w.chg m j e fp S').rowAt m i d') (hj : j = m ∨ ∀ rows, w.H[j]? ≠ some (.live (.ll rows))) : Up w (w.chg m j e fp S') := by
  have hjl : j < w.H.length := by rw [← g.l2]; exact (List.getElem?_eq_some_iff.mp c.pj).1
  refine ⟨chg_ext c, fun _ _ h => h, fun _ => Iff.rfl, fun n h => c.same n (g.ow n h) (fun z => g.dis0 m fm n c.pm z h) (fun z => g.dis0 j fj n c.pj z h), fun k i d' h => ?_⟩
  by_cases hk : k = m
  · subst hk; exact hrow i d' h
  by_cases hkj : k = j
  · subst hkj
    unfold Wo.rowAt
    have : (w.chg m k e fp S').H[k]? = some .gone := by
      show ((w.H.set k .gone).set m e)[k]? = _
      rw [List.getElem?_set_ne (Ne.symm hk), List.getElem?_set_self hjl]
    rw [this]
    trivial
  · refine row_same (w := w) (fun _ => ?_) (fun _ h => h) (fun rows n o eH er eS => ?_) h
    · show ((w.H.set j .gone).set m e)[k]? = _
      rw [List.getElem?_set_ne (Ne.symm hk), List.getElem?_set_ne (Ne.symm hkj)]
    · obtain ⟨f, z1, z2⟩ := row_live g eH er
      exact (c.same n (get_lt eS) (fun z => hk (g.dis m k fm f n c.pm z1 z z2).symm) (fun z => hkj (g.dis j k fj f n c.pj z1 z z2).symm)).trans eS
end
/-- rows there were none -/
theorem row_no {m i : Nat} {d : D} {h : HT} (e : w.H[m]? = some (.live h)) (hn : ∀ rows, h ≠ .ll rows) : ¬ w.rowAt m i d := by
  unfold Wo.rowAt
  rw [e]
  cases h <;> first | exact fun z => z | exact (hn _ rfl).elim
theorem row_off {m i : Nat} {d : D} {e : HE} (h : w.H[m]? = some e) (hn : ∀ t, e ≠ .live t) : w.rowAt m i d := by
  unfold Wo.rowAt
  rw [h]
  cases e <;> first | trivial | exact (hn _ rfl).elim
/-- what is written becomes cold -/
def Wo.frz (w : Wo) (m : Nat) (x : V0) : Wo := w.chg m m (.cold x) [] w.S
theorem chg_frz {m : Nat} {x : V0} {d : D} {fm : List Nat} (h1 : w.rho[m]? = some d) (h2 : w.fps[m]? = some fm) : Chg w m m (.cold x) [] fm fm d w.S :=
  ⟨h1, h2, h2, Nat.le_refl _, fun _ _ _ _ => rfl, fun _ h => (nomatch h), fun _ h => (nomatch h)⟩
theorem frz_H {m : Nat} {x : V0} : (w.frz m x).H = w.H.set m (.cold x) := by show (w.H.set m _).set m _ = _; rw [List.set_set]
theorem Up.frz (g : Gd w) {m : Nat} {x : V0} {d : D} {fm : List Nat} (h1 : w.rho[m]? = some d) (h2 : w.fps[m]? = some fm) : Up w (w.frz m x) :=
  Up.chg g (chg_frz h1 h2) (fun i d' _ => row_off (chg_H (chg_frz h1 h2) g) (fun _ z => nomatch z)) (.inl rfl)
theorem frz_live (g : Gd w) {m : Nat} {x : V0} {d : D} {fm : List Nat} (h1 : w.rho[m]? = some d) (h2 : w.fps[m]? = some fm) {n : Nat} (hn : n ∈ fm) : ¬ (w.frz m x).Live n := fun z => by
  rcases z with z | ⟨k, f, hk, hf⟩
  · exact g.dis0 m fm n h2 hn z
  · rcases chg_fps (chg_frz h1 h2) hk hf with ⟨rfl, rfl⟩ | ⟨q1, _, q2⟩
    · cases hf
    · exact q1 (g.dis m k fm f n h2 q2 hn hf).symm
/-- a list that is written becomes cold -/
theorem Gd.frzL (g : Gd w) {m : Nat} {vs : List V0} (h : w.H[m]? = some (.live (.lst vs))) : ∃ d, w.rho[m]? = some d ∧ Gd (w.frz m (.lst vs)) ∧ Up w (w.frz m (.lst vs)) ∧ Cv (w.frz m (.lst vs)).Live w.S d (.lst vs) := by
  obtain ⟨d, fp, e1, e2, n, ds, rfl, rfl, e3, c⟩ := g.ob m _ h
  have cc : Cv (w.frz m (.lst vs)).Live w.S (.loc n) (.lst vs) := .loc (frz_live g e1 e2 (List.mem_singleton.mpr rfl)) e3 (c.up (chg_ext (chg_frz e1 e2)))
  exact ⟨_, e1, g.chg (chg_frz e1 e2) ⟨rfl, cc⟩, Up.frz g e1 e2, cc⟩
theorem rows_cv {L L' : Nat → Prop} {S : Sto} (e : Ext L S L' S) : ∀ {ns : List Nat} {rows : List (List V0)}, (∀ n ∈ ns, ¬ L' n) → RwR L S ns rows → Cvs L' S (ns.map .loc) (rows.map .lst)
  | _, _, _, .nil => .nil
  | _, _, h, .cons ⟨es, a, b⟩ t => .cons (.loc (h _ List.mem_cons_self) a (b.up e)) (rows_cv e (fun n hn => h n (List.mem_cons_of_mem _ hn)) t)
theorem Gd.frzR (g : Gd w) {m : Nat} {rows : List (List V0)} (h : w.H[m]? = some (.live (.ll rows))) : ∃ d, w.rho[m]? = some d ∧ Gd (w.frz m (.lst (rows.map .lst))) ∧ Up w (w.frz m (.lst (rows.map .lst))) ∧ Cv (w.frz m (.lst (rows.map .lst))).Live w.S d (.lst (rows.map .lst)) := by
  obtain ⟨d, fp, e1, e2, n, ns, rfl, rfl, nd, e3, c⟩ := g.ob m _ h
  have cc : Cv (w.frz m (.lst (rows.map .lst))).Live w.S (.loc n) (.lst (rows.map .lst)) := .loc (frz_live g e1 e2 List.mem_cons_self) e3 (rows_cv (chg_ext (chg_frz e1 e2)) (fun k hk => frz_live g e1 e2 (List.mem_cons_of_mem _ hk)) c)
  exact ⟨_, e1, g.chg (chg_frz e1 e2) ⟨rfl, cc⟩, Up.frz g e1 e2, cc⟩
/-- writing at a thing's own place -/
def Wo.put (w : Wo) (m n : Nat) (h : HT) (o : SO) : Wo := w.chg m m (.live h) [n] (w.S.set n o)
theorem put_H {m n : Nat} {h : HT} {o : SO} : (w.put m n h o).H = w.H.set m (.live h) := by show (w.H.set m _).set m _ = _; rw [List.set_set]
theorem chg_put (g : Gd w) {m n : Nat} {h : HT} {o : SO} (e1 : w.rho[m]? = some (.loc n)) (e2 : w.fps[m]? = some [n]) : Chg w m m (.live h) [n] [n] [n] (.loc n) (w.S.set n o) :=
  ⟨e1, e2, e2, by simp, fun k _ hk _ => List.getElem?_set_ne (fun z => hk (by simp [z])), fun k hk => .inl hk, fun k hk => by rw [List.mem_singleton.mp hk, List.length_set]; exact g.lt (.inr ⟨m, [n], e2, List.mem_singleton.mpr rfl⟩)⟩
theorem put_live {m n k : Nat} {h : HT} {o : SO} (e2 : w.fps[m]? = some [n]) : (w.put m n h o).Live k ↔ w.Live k := by
  have hf : (w.put m n h o).fps = w.fps := by
    show (w.fps.set m []).set m [n] = w.fps
    rw [List.set_set]
    obtain ⟨h1, h2⟩ := List.getElem?_eq_some_iff.mp e2
    rw [← h2]
    simp
  unfold Wo.Live
  rw [hf]
  exact Iff.rfl
theorem put_ext (g : Gd w) {m n : Nat} {h : HT} {o : SO} (e1 : w.rho[m]? = some (.loc n)) (e2 : w.fps[m]? = some [n]) : Ext w.Live w.S (w.put m n h o).Live (w.S.set n o) := chg_ext (chg_put g e1 e2)
theorem Gd.put (g : Gd w) {m n : Nat} {h : HT} {o : SO} (e1 : w.rho[m]? = some (.loc n)) (e2 : w.fps[m]? = some [n]) (q : Hr (w.put m n h o).Live (w.S.set n o) w.rho (.loc n) h [n]) : Gd (w.put m n h o) := g.chg (chg_put g e1 e2) q
theorem Up.put (g : Gd w) {m n : Nat} {h h0 : HT} {o : SO} (e0 : w.H[m]? = some (.live h0)) (hn : ∀ rows, h0 ≠ .ll rows) (e1 : w.rho[m]? = some (.loc n)) (e2 : w.fps[m]? = some [n]) : Up w (w.put m n h o) :=
  Up.chg g (chg_put g e1 e2) (fun i d' z => (row_no e0 hn z).elim) (.inl rfl)
theorem Gd.putL (g : Gd w) {m n : Nat} {vs : List V0} {ds : List D} (e1 : w.rho[m]? = some (.loc n)) (e2 : w.fps[m]? = some [n]) (c : Cvs w.Live w.S ds vs) : Gd (w.put m n (.lst vs) (.lst ds)) :=
  g.put e1 e2 ⟨n, ds, rfl, rfl, List.getElem?_set_self (g.lt (.inr ⟨m, [n], e2, List.mem_singleton.mpr rfl⟩)), c.up (put_ext g e1 e2)⟩
end
end PV

set_option Elab.async false
set_option linter.all false
set_option maxRecDepth 100000
set_option maxHeartbeats 3999000
namespace PV
open L2 PyProof.Rows PySem PySem.Spec

/-! ### a part of a world -/
def subL {α : Type} (l : List α) (d : α) (ids : List Nat) : List α := ids.map fun i => l[i]?.getD d
theorem subL_len {α : Type} {l : List α} {d : α} {ids : List Nat} : (subL l d ids).length = ids.length := by simp [subL]
theorem subL_get {α : Type} {l : List α} {d : α} {ids : List Nat} {j i : Nat} {a : α} (h : ids[j]? = some i) (h2 : l[i]? = some a) : (subL l d ids)[j]? = some a := by
  unfold subL
  rw [List.getElem?_map, h]
  simp [h2]
theorem subL_at {α : Type} {l : List α} {d : α} {ids : List Nat} {j : Nat} {a : α} (h : (subL l d ids)[j]? = some a) : ∃ i, ids[j]? = some i ∧ l[i]?.getD d = a := by
  unfold subL at h
  rw [List.getElem?_map] at h
  obtain ⟨i, e, q⟩ := Option.map_eq_some_iff.mp h
  exact ⟨i, e, q⟩
theorem getD_some {α : Type} {l : List α} {d a : α} {i : Nat} (h : i < l.length) (e : l[i]?.getD d = a) : l[i]? = some a := by
  rw [List.getElem?_eq_getElem h] at e ⊢
  simpa using e
theorem mem_get {ids : List Nat} {i : Nat} (h : i ∈ ids) : ∃ j : Nat, ids[j]? = some i := by
  obtain ⟨j, hj, e⟩ := List.getElem_of_mem h
  exact ⟨j, by rw [List.getElem?_eq_getElem hj, e]⟩
theorem nodup_ix {ids : List Nat} (h : ids.Nodup) {j j' i : Nat} (e : ids[j]? = some i) (e' : ids[j']? = some i) : j = j' := by
  obtain ⟨h1, q1⟩ := List.getElem?_eq_some_iff.mp e
  obtain ⟨h2, q2⟩ := List.getElem?_eq_some_iff.mp e'
  exact (List.getElem_inj h).mp (q1.trans q2.symm)
def posOf : List Nat → Nat → Option Nat
  | [], _ => none
  | a :: r, m => if a = m then some 0 else (posOf r m).map (· + 1)
theorem posOf_some : ∀ {ids : List Nat} {m j : Nat}, posOf ids m = some j → ids[j]? = some m
  | [], _, _, h => by cases h
  | a :: r, m, j, h => by
    unfold posOf at h
    split at h
    · rename_i e; cases h; rw [e]; rfl
    · obtain ⟨k, e1, e2⟩ := Option.map_eq_some_iff.mp h
      subst e2
      rw [List.getElem?_cons_succ]
      exact posOf_some e1
theorem posOf_none : ∀ {ids : List Nat} {m : Nat}, posOf ids m = none → m ∉ ids
  | [], _, _ => by simp
  | a :: r, m, h => by
    unfold posOf at h
    split at h
    · cases h
    · rename_i e
      have := posOf_none (Option.map_eq_none_iff.mp h)
      simp [Ne.symm e, this]
def posD (ids : List Nat) (m : Nat) : Nat := (posOf ids m).getD 0
theorem posD_get {ids : List Nat} {m : Nat} (h : m ∈ ids) : ids[posD ids m]? = some m := by
  unfold posD
  cases e : posOf ids m with
  | none => exact absurd h (posOf_none e)
  | some j => exact posOf_some e
/-- what the i-th thing names -/
def refsAt (H : Hot) (i : Nat) : List Nat := match H[i]? with
  | some e => e.refs
  | none => []
def subH (H : Hot) (ids : List Nat) : Hot := (subL H (.cold .non) ids).map (HE.mapR (posD ids))
def closedB (H : Hot) (ids : List Nat) : Bool := ids.all fun i => (refsAt H i).all fun j => ids.contains j
theorem closed_ok {H : Hot} {ids : List Nat} (h : closedB H ids = true) : ∀ i ∈ ids, ∀ j ∈ refsAt H i, j ∈ ids := fun i hi j hj =>
  List.contains_iff_mem.mp (List.all_eq_true.mp (List.all_eq_true.mp h i hi) j hj)
def Wo.sub (w : Wo) (O : Nat → Prop) (ids : List Nat) : Wo := { out := O, S := w.S, H := subH w.H ids, rho := subL w.rho .non ids, fps := subL w.fps [] ids }
theorem subH_len {H : Hot} {ids : List Nat} : (subH H ids).length = ids.length := by unfold subH; rw [List.length_map, subL_len]
theorem subH_get {H : Hot} {ids : List Nat} {j i : Nat} {e : HE} (h : ids[j]? = some i) (h2 : H[i]? = some e) : (subH H ids)[j]? = some (e.mapR (posD ids)) := by
  unfold subH
  rw [List.getElem?_map, subL_get h h2]
  rfl
theorem subH_at {H : Hot} {ids : List Nat} {j : Nat} {e : HE} (h : (subH H ids)[j]? = some e) : ∃ i e0, ids[j]? = some i ∧ H[i]?.getD (.cold .non) = e0 ∧ e = e0.mapR (posD ids) := by
  unfold subH at h
  rw [List.getElem?_map] at h
  obtain ⟨e0, q, rfl⟩ := Option.map_eq_some_iff.mp h
  obtain ⟨i, a, b⟩ := subL_at q
  exact ⟨i, e0, a, b, rfl⟩
/-- what a part leaves out -/
def Wo.oth (w : Wo) (ids : List Nat) (n : Nat) : Prop := w.Live n ∧ ∀ i ∈ ids, ∀ fp, w.fps[i]? = some fp → n ∉ fp
section
variable {w : Wo} {O : Nat → Prop} {ids : List Nat}
theorem sub_fps {j : Nat} {fp : List Nat} {n : Nat} (h : (w.sub O ids).fps[j]? = some fp) (hn : n ∈ fp) : ∃ i, ids[j]? = some i ∧ w.fps[i]? = some fp := by
  obtain ⟨i, e, q⟩ := subL_at h
  refine ⟨i, e, ?_⟩
  cases hq : w.fps[i]? with
  | none => rw [hq] at q; simp at q; rw [q] at hn; cases hn
  | some x => rw [hq] at q; simp at q; rw [q]
theorem live_sub (hO : ∀ n, O n → w.Live n) {n : Nat} (h : (w.sub O ids).Live n) : w.Live n := by
  rcases h with h | ⟨j, fp, e, hn⟩
  · exact hO n h
  · obtain ⟨i, _, q⟩ := sub_fps e hn
    exact .inr ⟨i, fp, q, hn⟩
theorem sub_ext' (hO : ∀ n, O n → w.Live n) : Ext w.Live w.S (w.sub O ids).Live w.S := sub_ext fun _ h => live_sub hO h
theorem live_sub_iff {n : Nat} : (w.sub (w.oth ids) ids).Live n ↔ w.Live n := by
  refine ⟨live_sub fun _ h => h.1, fun h => ?_⟩
  by_cases q : ∃ i ∈ ids, ∃ fp, w.fps[i]? = some fp ∧ n ∈ fp
  · obtain ⟨i, hi, fp, e, hn⟩ := q
    obtain ⟨j, hj⟩ := mem_get hi
    exact .inr ⟨j, fp, subL_get hj e, hn⟩
  · exact .inl ⟨h, fun i hi fp e hn => q ⟨i, hi, fp, e, hn⟩⟩
theorem Gd.sub (g : Gd w) (hn : ids.Nodup) (hr : ∀ i ∈ ids, i < w.H.length) (hcl : ∀ i ∈ ids, ∀ j ∈ refsAt w.H i, j ∈ ids) (hO : ∀ n, O n → w.oth ids n) : Gd (w.sub O ids) := by
  have hO' : ∀ n, O n → w.Live n := fun n h => (hO n h).1
  refine ⟨?_, ?_, fun n h => g.lt (hO' n h), ?_, ?_, ?_⟩
  · show (subL _ _ _).length = (subH _ _).length; rw [subL_len, subH_len]
  · show (subL _ _ _).length = (subH _ _).length; rw [subL_len, subH_len]
  · intro j fp n e h1 h2
    obtain ⟨i, q1, q2⟩ := sub_fps e h1
    exact (hO n h2).2 i (List.mem_of_getElem? q1) fp q2 h1
  · intro j j' fp fp' n e e' h1 h2
    obtain ⟨i, q1, q2⟩ := sub_fps e h1
    obtain ⟨i', q1', q2'⟩ := sub_fps e' h2
    have := g.dis i i' fp fp' n q2 q2' h1 h2
    subst this
    exact nodup_ix hn q1 q1'
  · intro j e he
    obtain ⟨i, e0, q1, q2, rfl⟩ := subH_at (show (subH w.H ids)[j]? = some e from he)
    have hm := List.mem_of_getElem? q1
    have hi := hr i hm
    have q3 := getD_some hi q2
    obtain ⟨d, fp, a1, a2, a3⟩ := g.ob i e0 q3
    refine ⟨d, fp, subL_get q1 a1, subL_get q1 a2, a3.ren (sub_ext' hO') (posD ids) (fun k hk d' hd => ?_) fun _ _ => rfl⟩
    exact subL_get (posD_get (hcl i hm k (by unfold refsAt; rw [q3]; exact hk))) hd

/-! ### names of a part -/
mutual
def ren : W → List Nat → W × List Nat
  | .v x, ids => (.v x, ids)
  | .r m, ids => match posOf ids m with
    | some j => (.r j, ids)
    | none => (.r ids.length, ids ++ [m])
  | .q m i, ids => match posOf ids m with
    | some j => (.q j i, ids)
    | none => (.q ids.length i, ids ++ [m])
  | .t ws, ids => (.t (rens ws ids).1, (rens ws ids).2)
def rens : List W → List Nat → List W × List Nat
  | [], ids => ([], ids)
  | x :: r, ids => ((ren x ids).1 :: (rens r (ren x ids).2).1, (rens r (ren x ids).2).2)
end
structure Rn (w : Wo) (ids ids' : List Nat) : Prop where
  pre : ∀ (j i : Nat), ids[j]? = some i → ids'[j]? = some i
  nd : ids.Nodup → ids'.Nodup
  rg : (∀ i ∈ ids, i < w.rho.length) → ∀ i ∈ ids', i < w.rho.length
theorem Rn.refl {ids : List Nat} : Rn w ids ids := ⟨fun _ _ h => h, fun h => h, fun h => h⟩
theorem Rn.trans {a b c : List Nat} (x : Rn w a b) (y : Rn w b c) : Rn w a c := ⟨fun j i h => y.pre j i (x.pre j i h), fun h => y.nd (x.nd h), fun h => y.rg (x.rg h)⟩
theorem Rn.up {O : Nat → Prop} (hO : ∀ n, O n → w.Live n) {ids ids' : List Nat} (x : Rn w ids ids') (hr : ∀ i ∈ ids, i < w.rho.length) {O' : Nat → Prop} {m : Nat} {d : D} (h : (w.sub O ids).rho[m]? = some d) : (w.sub O' ids').rho[m]? = some d := by
  obtain ⟨i, e, q⟩ := subL_at h
  exact subL_get (x.pre m i e) (getD_some (hr i (List.mem_of_getElem? e)) q)
theorem sub_row {O : Nat → Prop} {ids : List Nat} {j m i : Nat} {d : D} (h : ids[j]? = some m) (r : w.rowAt m i d) : (w.sub O ids).rowAt j i d := by
  have hl := row_lt r
  have e : (w.sub O ids).H[j]? = some (w.H[m].mapR (posD ids)) := subH_get h (List.getElem?_eq_getElem hl)
  unfold Wo.rowAt at r ⊢
  rw [e]
  rw [List.getElem?_eq_getElem hl] at r
  cases hc : w.H[m] with
  | live t =>
    rw [hc] at r
    cases t with
    | ll rows =>
      obtain ⟨n, ds, a, b, c⟩ := r
      exact ⟨n, ds, subL_get h a, b, c⟩
    | _ => exact r.elim
  | cold x => trivial
  | gone => trivial
/-! how a value is seen with other names: rho alone matters -/
mutual
theorem ren_ok (hl : w.rho.length = w.H.length) (hO : ∀ n, O n → w.Live n) : ∀ {x : W} {d : D} {ids : List Nat}, Wr w d x → Rn w ids (ren x ids).2 ∧ ((∀ i ∈ ids, i < w.rho.length) → ∀ ids', Rn w (ren x ids).2 ids' → Wr (w.sub O ids') d (ren x ids).1)
  | _, _, ids, .v h => ⟨.refl, fun _ ids' _ => .v (h.up (sub_ext' hO))⟩
  | .r m, d, ids, .r h => by
    have hm : m < w.rho.length := (List.getElem?_eq_some_iff.mp h).1
    unfold ren
    split
    · rename_i j e
      exact ⟨.refl, fun _ ids' q => .r (subL_get (q.pre _ _ (posOf_some e)) h)⟩
    · rename_i e
      have hn := posOf_none e
      refine ⟨⟨fun j i q => ?_, fun q => ?_, fun q i hi => ?_⟩, fun _ ids' q => .r (subL_get (q.pre _ _ (by simp)) h)⟩
      · show (ids ++ [m])[j]? = _
        rw [List.getElem?_append_left (List.getElem?_eq_some_iff.mp q).1]; exact q
      · exact List.nodup_append.mpr ⟨q, by simp, fun a ha b hb => by rw [List.mem_singleton.mp hb]; exact fun e => hn (e ▸ ha)⟩
      · rcases List.mem_append.mp hi with hi | hi
        · exact q i hi
        · rw [List.mem_singleton.mp hi]; exact hm
  | .t ws, _, ids, .t h => by
    obtain ⟨a, b⟩ := rens_ok hl hO (ids := ids) h
    unfold ren
    exact ⟨a, fun hr ids' q => .t (b hr ids' q)⟩
  | .q m i, d, ids, .q h => by
    have hm : m < w.rho.length := by rw [hl]; exact row_lt h
    unfold ren
    split
    · rename_i j e
      exact ⟨.refl, fun _ ids' q => .q (sub_row (q.pre _ _ (posOf_some e)) h)⟩
    · rename_i e
      have hn := posOf_none e
      refine ⟨⟨fun j i q => ?_, fun q => ?_, fun q i hi => ?_⟩, fun _ ids' q => .q (sub_row (q.pre _ _ (by simp)) h)⟩
      · show (ids ++ [m])[j]? = _
        rw [List.getElem?_append_left (List.getElem?_eq_some_iff.mp q).1]; exact q
      · exact List.nodup_append.mpr ⟨q, by simp, fun a ha b hb => by rw [List.mem_singleton.mp hb]; exact fun e => hn (e ▸ ha)⟩
      · rcases List.mem_append.mp hi with hi | hi
        · exact q i hi
        · rw [List.mem_singleton.mp hi]; exact hm
theorem rens_ok (hl : w.rho.length = w.H.length) (hO : ∀ n, O n → w.Live n) : ∀ {x : List W} {d : List D} {ids : List Nat}, Wrs w d x → Rn w ids (rens x ids).2 ∧ ((∀ i ∈ ids, i < w.rho.length) → ∀ ids', Rn w (rens x ids).2 ids' → Wrs (w.sub O ids') d (rens x ids).1)
  | _, _, ids, .nil => by unfold rens; exact ⟨.refl, fun _ _ _ => .nil⟩
  | x :: r, _, ids, .cons h t => by
    obtain ⟨a, b⟩ := ren_ok hl hO (ids := ids) h
    obtain ⟨a', b'⟩ := rens_ok hl hO (ids := (ren x ids).2) t
    unfold rens
    exact ⟨a.trans a', fun hr ids' q => .cons (b hr ids' (a'.trans q)) (b' (a.rg hr) ids' q)⟩
end

/-! ### a part goes on, the rest waits -/
def putAll {α : Type} : List α → List Nat → List α → List α
  | l, i :: ids, e :: es => putAll (l.set i e) ids es
  | l, _, _ => l
theorem putAll_len {α : Type} : ∀ {l : List α} {ids : List Nat} {es : List α}, (putAll l ids es).length = l.length
  | l, [], _ => by simp [putAll]
  | l, _ :: _, [] => by simp [putAll]
  | l, i :: ids, e :: es => by simp [putAll, putAll_len (ids := ids)]
theorem putAll_ne {α : Type} : ∀ {l : List α} {ids : List Nat} {es : List α} {m : Nat}, m ∉ ids → (putAll l ids es)[m]? = l[m]?
  | l, [], _, _, _ => by simp [putAll]
  | l, _ :: _, [], _, _ => by simp [putAll]
  | l, i :: ids, e :: es, m, h => by
    simp only [List.mem_cons, not_or] at h
    rw [putAll, putAll_ne h.2, List.getElem?_set_ne (Ne.symm h.1)]
theorem putAll_at {α : Type} : ∀ {l : List α} {ids : List Nat} {es : List α} {j m : Nat} {e : α}, ids.Nodup → ids[j]? = some m → es[j]? = some e → m < l.length → (putAll l ids es)[m]? = some e
  | l, [], _, _, _, _, _, h, _, _ => by simp at h
  | l, _ :: _, [], _, _, _, _, _, h, _ => by simp at h
  | l, i :: ids, a :: es, 0, m, e, hn, h1, h2, hl => by
    simp at h1 h2
    subst h1 h2
    rw [putAll, putAll_ne (List.nodup_cons.mp hn).1, List.getElem?_set_self hl]
  | l, i :: ids, a :: es, j + 1, m, e, hn, h1, h2, hl => by
    rw [putAll]
    exact putAll_at (List.nodup_cons.mp hn).2 (by simpa using h1) (by simpa using h2) (by simpa using hl)
def bk (ids : List Nat) (L j : Nat) : Nat := ids[j]?.getD (L + (j - ids.length))
mutual
def bkW (ids : List Nat) (L : Nat) : W → W
  | .v x => .v x
  | .r j => .r (bk ids L j)
  | .t ws => .t (bkWs ids L ws)
  | .q j i => .q (bk ids L j) i
def bkWs (ids : List Nat) (L : Nat) : List W → List W
  | [] => []
  | x :: r => bkW ids L x :: bkWs ids L r
end
def mrgL {α : Type} (l : List α) (ids : List Nat) (l1 : List α) : List α := putAll l ids l1 ++ l1.drop ids.length
def mrgH (H : Hot) (ids : List Nat) (H1 : Hot) : Hot := mrgL H ids (H1.map (HE.mapR (bk ids H.length)))
def Wo.mrg (w : Wo) (ids : List Nat) (w1 : Wo) : Wo := { out := w.out, S := w1.S, H := mrgH w.H ids w1.H, rho := w.rho ++ w1.rho.drop ids.length, fps := mrgL w.fps ids w1.fps }
theorem mrg_old {α : Type} {l l1 : List α} {m : Nat} (h : m ∉ ids) (hl : m < l.length) : (mrgL l ids l1)[m]? = l[m]? := by
  unfold mrgL
  rw [List.getElem?_append_left (by rw [putAll_len]; exact hl), putAll_ne h]
theorem mrg_new {α : Type} {l l1 : List α} {j : Nat} {e : α} (hn : ids.Nodup) (hr : ∀ i ∈ ids, i < l.length) (h : l1[j]? = some e) : (mrgL l ids l1)[bk ids l.length j]? = some e := by
  unfold mrgL bk
  cases q : ids[j]? with
  | some i =>
    have hi := hr i (List.mem_of_getElem? q)
    simp only [Option.getD_some]
    rw [List.getElem?_append_left (by rw [putAll_len]; exact hi)]
    exact putAll_at hn q h hi
  | none =>
    have hj : ids.length ≤ j := List.getElem?_eq_none_iff.mp q
    simp only [Option.getD_none]
    rw [List.getElem?_append_right (by rw [putAll_len]; omega), putAll_len, List.getElem?_drop]
    rw [show ids.length + (l.length + (j - ids.length) - l.length) = j by omega]
    exact h
theorem mrg_len {α : Type} {l l1 : List α} : (mrgL l ids l1).length = l.length + (l1.length - ids.length) := by simp [mrgL, putAll_len]
theorem bk_lt {L j n : Nat} (hr : ∀ i ∈ ids, i < L) (h : j < n) (hk : ids.length ≤ n) : bk ids L j < L + (n - ids.length) := by
  unfold bk
  cases q : ids[j]? with
  | some i => have := hr i (List.mem_of_getElem? q); simp; omega
  | none => have := List.getElem?_eq_none_iff.mp q; simp; omega
theorem bk_inj {L j j' : Nat} (hn : ids.Nodup) (hr : ∀ i ∈ ids, i < L) (h : bk ids L j = bk ids L j') : j = j' := by
  unfold bk at h
  cases q : ids[j]? with
  | some i =>
    have hi := hr i (List.mem_of_getElem? q)
    cases q' : ids[j']? with
    | some i' => rw [q, q'] at h; simp at h; subst h; exact nodup_ix hn q q'
    | none => rw [q, q'] at h; simp at h; omega
  | none =>
    have := List.getElem?_eq_none_iff.mp q
    cases q' : ids[j']? with
    | some i' => have hi := hr i' (List.mem_of_getElem? q'); rw [q, q'] at h; simp at h; omega
    | none => have := List.getElem?_eq_none_iff.mp q'; rw [q, q'] at h; simp at h; omega
/-- each place of the whole is an old one or one of the part -/
theorem mrg_cases {L k m : Nat} (hr : ∀ i ∈ ids, i < L) (hm : m < L + (k - ids.length)) (hk : ids.length ≤ k) : (m < L ∧ m ∉ ids) ∨ ∃ j, j < k ∧ bk ids L j = m := by
  by_cases h : m < L
  · by_cases hi : m ∈ ids
    · obtain ⟨j, e⟩ := mem_get hi
      exact .inr ⟨j, Nat.lt_of_lt_of_le (List.getElem?_eq_some_iff.mp e).1 hk, by unfold bk; rw [e]; rfl⟩
    · exact .inl ⟨h, hi⟩
  · refine .inr ⟨ids.length + (m - L), by omega, ?_⟩
    unfold bk
    rw [List.getElem?_eq_none (by omega)]
    simp
    omega
section
variable {w1 : Wo} (g : Gd w) (g1 : Gd w1) (hn : ids.Nodup) (hr : ∀ i ∈ ids, i < w.H.length) (u : Up (w.sub (w.oth ids) ids) w1)
include g g1 hn hr u
theorem mrg_k : ids.length ≤ w1.H.length := by
  rcases Nat.eq_zero_or_pos ids.length with h | h
  · omega
  · have hi : ids.length - 1 < (w.sub (w.oth ids) ids).rho.length := by show _ < (subL _ _ _).length; rw [subL_len]; omega
    have := u.rho (ids.length - 1) _ (List.getElem?_eq_getElem hi)
    have := (List.getElem?_eq_some_iff.mp this).1
    rw [g1.l1] at this
    omega
theorem mrg_fps {m : Nat} {fp : List Nat} (h : (w.mrg ids w1).fps[m]? = some fp) : (m < w.H.length ∧ m ∉ ids ∧ w.fps[m]? = some fp) ∨ ∃ j, j < w1.H.length ∧ bk ids w.H.length j = m ∧ w1.fps[j]? = some fp := by
  have hk := mrg_k g g1 hn hr u
  have h : (mrgL w.fps ids w1.fps)[m]? = some fp := h
  have hl := (List.getElem?_eq_some_iff.mp h).1
  rw [mrg_len, g.l2, g1.l2] at hl
  rcases mrg_cases hr hl hk with ⟨h1, h2⟩ | ⟨j, h1, h2⟩
  · rw [mrg_old h2 (by rw [g.l2]; exact h1)] at h
    exact .inl ⟨h1, h2, h⟩
  · refine .inr ⟨j, h1, h2, ?_⟩
    have hj : j < w1.fps.length := by rw [g1.l2]; exact h1
    have := mrg_new hn (by rw [g.l2]; exact hr) (List.getElem?_eq_getElem hj)
    rw [g.l2, h2, h] at this
    rw [List.getElem?_eq_getElem hj, this]
theorem mrg_out {n : Nat} (h : w.out n) : w1.out n := (u.out n).mpr ⟨.inl h, fun i hi fp e hm => g.dis0 i fp n e hm h⟩
theorem mrg_oth {m n : Nat} {fp : List Nat} (h : m ∉ ids) (e : w.fps[m]? = some fp) (q : n ∈ fp) : w1.out n := (u.out n).mpr ⟨.inr ⟨m, fp, e, q⟩, fun i hi fp' e' hm => h (by rw [g.dis m i fp fp' n e e' q hm]; exact hi)⟩
theorem live_mrg {n : Nat} : (w.mrg ids w1).Live n ↔ w1.Live n := by
  constructor
  · rintro (h | ⟨m, fp, e, q⟩)
    · exact .inl (mrg_out g g1 hn hr u h)
    · rcases mrg_fps g g1 hn hr u e with ⟨h1, h2, h3⟩ | ⟨j, h1, h2, h3⟩
      · exact .inl (mrg_oth g g1 hn hr u h2 h3 q)
      · exact .inr ⟨j, fp, h3, q⟩
  · rintro (h | ⟨j, fp, e, q⟩)
    · obtain ⟨h1, h2⟩ := (u.out n).mp h
      rcases h1 with h1 | ⟨m, fp, e, q⟩
      · exact .inl h1
      · have hm : m ∉ ids := fun z => h2 m z fp e q
        exact .inr ⟨m, fp, (mrg_old hm (List.getElem?_eq_some_iff.mp e).1).trans e, q⟩
    · refine .inr ⟨bk ids w.fps.length j, fp, ?_, q⟩
      exact mrg_new hn (by rw [g.l2]; exact hr) e
theorem mrg_ext : Ext w.Live w.S (w.mrg ids w1).Live w1.S :=
  ⟨u.ext.len, fun n h z => let ⟨a, b⟩ := u.ext.at_ n h (fun q => z (live_sub_iff.mp q)); ⟨a, fun q => b ((live_mrg g g1 hn hr u).mp q)⟩⟩
theorem mrg_rho {j : Nat} {d : D} (h : w1.rho[j]? = some d) : (w.mrg ids w1).rho[bk ids w.H.length j]? = some d := by
  show (w.rho ++ w1.rho.drop ids.length)[_]? = _
  unfold bk
  cases q : ids[j]? with
  | some i =>
    have hi := hr i (List.mem_of_getElem? q)
    have hi' : i < w.rho.length := by rw [g.l1]; exact hi
    simp only [Option.getD_some]
    rw [List.getElem?_append_left hi']
    have e1 := u.rho j w.rho[i] (subL_get q (List.getElem?_eq_getElem hi'))
    rw [h] at e1
    rw [List.getElem?_eq_getElem hi', Option.some.inj e1]
  | none =>
    have := List.getElem?_eq_none_iff.mp q
    simp only [Option.getD_none]
    rw [List.getElem?_append_right (by rw [g.l1]; omega), g.l1, List.getElem?_drop, show ids.length + (w.H.length + (j - ids.length) - w.H.length) = j by omega]
    exact h
theorem mrgH_len : (mrgH w.H ids w1.H).length = w.H.length + (w1.H.length - ids.length) := by unfold mrgH; rw [mrg_len, List.length_map]
theorem mrgH_old {m : Nat} (h : m ∉ ids) (hl : m < w.H.length) : (w.mrg ids w1).H[m]? = w.H[m]? := mrg_old h hl
theorem mrgH_new {j : Nat} (h : j < w1.H.length) : (w.mrg ids w1).H[bk ids w.H.length j]? = some (w1.H[j].mapR (bk ids w.H.length)) :=
  mrg_new hn hr (by rw [List.getElem?_map, List.getElem?_eq_getElem h]; rfl)
theorem Gd.mrg : Gd (w.mrg ids w1) := by
  have hk := mrg_k g g1 hn hr u
  refine ⟨?_, ?_, fun n h => Nat.lt_of_lt_of_le (g.ow n h) u.ext.len, ?_, ?_, ?_⟩
  · show (w.rho ++ w1.rho.drop _).length = (mrgH _ _ _).length
    rw [mrgH_len g g1 hn hr u]; simp [g.l1, g1.l1]
  · show (mrgL _ _ _).length = (mrgH _ _ _).length
    rw [mrg_len, mrgH_len g g1 hn hr u, g.l2, g1.l2]
  · intro m fp n e q ho
    rcases mrg_fps g g1 hn hr u e with ⟨h1, h2, h3⟩ | ⟨j, h1, h2, h3⟩
    · exact g.dis0 m fp n h3 q ho
    · exact g1.dis0 j fp n h3 q (mrg_out g g1 hn hr u ho)
  · intro m m' fp fp' n e e' q q'
    rcases mrg_fps g g1 hn hr u e with ⟨h1, h2, h3⟩ | ⟨j, h1, h2, h3⟩ <;> rcases mrg_fps g g1 hn hr u e' with ⟨h1', h2', h3'⟩ | ⟨j', h1', h2', h3'⟩
    · exact g.dis m m' fp fp' n h3 h3' q q'
    · exact absurd (mrg_oth g g1 hn hr u h2 h3 q) (g1.dis0 j' fp' n h3' q')
    · exact absurd (mrg_oth g g1 hn hr u h2' h3' q') (g1.dis0 j fp n h3 q)
    · have := g1.dis j j' fp fp' n h3 h3' q q'
      rw [← h2, ← h2', this]
  · intro m e he
    have hl : m < (mrgH w.H ids w1.H).length := (List.getElem?_eq_some_iff.mp he).1
    rw [mrgH_len g g1 hn hr u] at hl
    rcases mrg_cases hr hl hk with ⟨h1, h2⟩ | ⟨j, h1, h2⟩
    · rw [mrgH_old g g1 hn hr u h2 h1] at he
      obtain ⟨d, fp, a1, a2, a3⟩ := g.ob m e he
      have hrho : ∀ (k : Nat) (d : D), w.rho[k]? = some d → (w.mrg ids w1).rho[k]? = some d := fun k d e => by show (w.rho ++ _)[k]? = _; rw [List.getElem?_append_left (List.getElem?_eq_some_iff.mp e).1]; exact e
      exact ⟨d, fp, hrho m d a1, (mrg_old h2 (by rw [g.l2]; exact h1)).trans a2, a3.up (mrg_ext g g1 hn hr u) hrho fun n q => u.fr n ((u.out n).mp (mrg_oth g g1 hn hr u h2 a2 q))⟩
    · subst h2
      rw [mrgH_new g g1 hn hr u h1] at he
      cases he
      obtain ⟨d, fp, a1, a2, a3⟩ := g1.ob j w1.H[j] (List.getElem?_eq_getElem h1)
      refine ⟨d, fp, mrg_rho g g1 hn hr u a1, ?_, a3.ren (sub_ext fun n z => (live_mrg g g1 hn hr u).mp z) _ (fun k _ d' hd => mrg_rho g g1 hn hr u hd) fun _ _ => rfl⟩
      show (mrgL w.fps ids w1.fps)[_]? = _
      rw [← g.l2]
      exact mrg_new hn (by rw [g.l2]; exact hr) a2
theorem mrg_row {j i : Nat} {d : D} (h : w1.rowAt j i d) : (w.mrg ids w1).rowAt (bk ids w.H.length j) i d := by
  have hl := row_lt h
  have e := mrgH_new g g1 hn hr u hl
  unfold Wo.rowAt at h ⊢
  rw [e]
  rw [List.getElem?_eq_getElem hl] at h
  cases hc : w1.H[j] with
  | live t =>
    rw [hc] at h
    cases t with
    | ll rows =>
      obtain ⟨n, ds, a, b, c⟩ := h
      exact ⟨n, ds, mrg_rho g g1 hn hr u a, b, c⟩
    | _ => exact h.elim
  | cold x => trivial
  | gone => trivial
theorem Up.mrg : Up w (w.mrg ids w1) := by
  have hrho : ∀ (m : Nat) (d : D), w.rho[m]? = some d → (w.mrg ids w1).rho[m]? = some d := fun m d e => by show (w.rho ++ _)[m]? = _; rw [List.getElem?_append_left (List.getElem?_eq_some_iff.mp e).1]; exact e
  refine ⟨mrg_ext g g1 hn hr u, hrho, fun _ => Iff.rfl, fun n h => u.fr n ((u.out n).mp (mrg_out g g1 hn hr u h)), fun m i d h => ?_⟩
  by_cases hm : m ∈ ids
  · obtain ⟨j, hj⟩ := mem_get hm
    have z := mrg_row g g1 hn hr u (u.row j i d (sub_row hj h))
    have e : bk ids w.H.length j = m := by unfold bk; rw [hj]; rfl
    rw [e] at z
    exact z
  · refine row_same (w := w) (fun hl => mrgH_old g g1 hn hr u hm hl) (hrho m) (fun rows n o eH er eS => ?_) h
    obtain ⟨fp, q1, q2⟩ := row_live g eH er
    exact (u.fr n ((u.out n).mp (mrg_oth g g1 hn hr u hm q1 q2))).trans eS
mutual
theorem bkW_ok : ∀ {x : W} {d : D}, Wr w1 d x → Wr (w.mrg ids w1) d (bkW ids w.H.length x)
  | _, _, .v h => by unfold bkW; exact .v (h.up (sub_ext fun n z => (live_mrg g g1 hn hr u).mp z))
  | _, _, .r h => by unfold bkW; exact .r (mrg_rho g g1 hn hr u h)
  | _, _, .t h => by unfold bkW; exact .t (bkWs_ok h)
  | _, _, .q h => by unfold bkW; exact .q (mrg_row g g1 hn hr u h)
theorem bkWs_ok : ∀ {x : List W} {d : List D}, Wrs w1 d x → Wrs (w.mrg ids w1) d (bkWs ids w.H.length x)
  | _, _, .nil => by unfold bkWs; exact .nil
  | _, _, .cons h r => by unfold bkWs; exact .cons (bkW_ok h) (bkWs_ok r)
end
theorem Xr.mrg {x : Ex} {y : X0} (h : Xr w1 x y) : Xr (w.mrg ids w1) x y := ⟨h.1, Paired.mapP h.2 fun p q ⟨a, b⟩ => ⟨a, b.up (sub_ext fun n z => (live_mrg g g1 hn hr u).mp z)⟩⟩
end
/-! ### the first things alone -/
def Wo.tak (w : Wo) (L : Nat) : Wo := { w with H := w.H.take L, rho := w.rho.take L, fps := w.fps.take L }
theorem take_get {α : Type} {l : List α} {L m : Nat} {a : α} (h : (l.take L)[m]? = some a) : l[m]? = some a ∧ m < L := by
  rw [List.getElem?_take] at h
  split at h
  · exact ⟨h, ‹_›⟩
  · cases h
theorem take_of {α : Type} {l : List α} {L m : Nat} {a : α} (h : l[m]? = some a) (hm : m < L) : (l.take L)[m]? = some a := by
  rw [List.getElem?_take, if_pos hm]; exact h
theorem live_tak {L n : Nat} (h : (w.tak L).Live n) : w.Live n := by
  rcases h with h | ⟨m, fp, e, q⟩
  · exact .inl h
  · exact .inr ⟨m, fp, (take_get e).1, q⟩
theorem tak_ext {L : Nat} : Ext w.Live w.S (w.tak L).Live w.S := sub_ext fun _ h => live_tak h
/-- the first things name no later ones -/
def closedL (L : Nat) (H : Hot) : Bool := (H.take L).all fun e => e.refs.all fun j => decide (j < L)
theorem closedL_ok {L : Nat} {H : Hot} (h : closedL L H = true) {m : Nat} {e : HE} (hm : m < L) (he : H[m]? = some e) : ∀ j ∈ e.refs, j < L := fun j hj =>
  of_decide_eq_true (List.all_eq_true.mp (List.all_eq_true.mp h e (List.mem_of_getElem? (take_of he hm))) j hj)
theorem Gd.tak (g : Gd w) {L : Nat} (hc : closedL L w.H = true) : Gd (w.tak L) := by
  refine ⟨?_, ?_, g.ow, fun m fp n e q => g.dis0 m fp n (take_get e).1 q, fun m m' fp fp' n e e' q q' => g.dis m m' fp fp' n (take_get e).1 (take_get e').1 q q', fun m e h => ?_⟩
  · show (w.rho.take L).length = (w.H.take L).length; simp [g.l1]
  · show (w.fps.take L).length = (w.H.take L).length; simp [g.l2]
  · obtain ⟨h1, h2⟩ := take_get h
    obtain ⟨d, fp, a1, a2, a3⟩ := g.ob m e h1
    have z := a3.ren (tak_ext (L := L)) (fun j => j) (rho' := w.rho.take L) (fun j hj d' hd => take_of hd (closedL_ok hc h2 h1 j hj)) fun _ _ => rfl
    rw [mapR_id] at z
    exact ⟨d, fp, take_of a1 h2, take_of a2 h2, z⟩
theorem row_tak {L m i : Nat} {d : D} (hm : m < L) (h : w.rowAt m i d) : (w.tak L).rowAt m i d :=
  row_same (w := w) (fun hl => by show (w.H.take L)[m]? = _; rw [List.getElem?_take, if_pos hm]) (fun _ e => take_of e hm) (fun _ _ _ _ _ e => e) h
theorem Up.tak {w' : Wo} (g : Gd w) (u : Up w w') : Up w (w'.tak w.H.length) :=
  ⟨u.ext.trans tak_ext, fun m d h => take_of (u.rho m d h) (by rw [← g.l1]; exact (List.getElem?_eq_some_iff.mp h).1), u.out, u.fr, fun m i d h => row_tak (row_lt h) (u.row m i d h)⟩
end

/-! ### what is written becomes cold -/
mutual
def fzW : W → Hot → Option (V0 × Hot)
  | .v x, H => some (x, H)
  | .r m, H => match H[m]? with
    | some (.live (.lst vs)) => some (.lst vs, H.set m (.cold (.lst vs)))
    | some (.live (.ll rows)) => some (.lst (rows.map .lst), H.set m (.cold (.lst (rows.map .lst))))
    | some (.cold x) => some (x, H)
    | _ => none
  | .t ws, H => match fzWs ws H with
    | some (xs, H') => some (.tup xs, H')
    | none => none
  | .q _ _, _ => none
def fzWs : List W → Hot → Option (List V0 × Hot)
  | [], H => some ([], H)
  | x :: r, H => match fzW x H with
    | some (v, H1) => (match fzWs r H1 with
      | some (vs, H2) => some (v :: vs, H2)
      | none => none)
    | none => none
end
section
variable {w : Wo}
theorem fz_r (g : Gd w) {m : Nat} {d : D} {v : V0} {H' : Hot} (h : w.rho[m]? = some d) (e : fzW (.r m) w.H = some (v, H')) : ∃ w', w'.S = w.S ∧ w'.H = H' ∧ w'.rho = w.rho ∧ Gd w' ∧ Up w w' ∧ Cv w'.Live w'.S d v := by
  unfold fzW at e
  split at e
  · rename_i vs he
    cases e
    obtain ⟨d', e1, g', u', c⟩ := g.frzL he
    rw [h] at e1
    cases e1
    exact ⟨w.frz m (.lst vs), rfl, frz_H, rfl, g', u', c⟩
  · rename_i rows he
    cases e
    obtain ⟨d', e1, g', u', c⟩ := g.frzR he
    rw [h] at e1
    cases e1
    exact ⟨w.frz m (.lst (rows.map .lst)), rfl, frz_H, rfl, g', u', c⟩
  · rename_i x he
    cases e
    obtain ⟨d', fp, e1, e2, _, c⟩ := g.ob m _ he
    rw [h] at e1
    cases e1
    exact ⟨w, rfl, rfl, rfl, g, .refl, c⟩
  · cases e
end
mutual
theorem fzW_ok : ∀ {w : Wo} {x : W} {d : D} {v : V0} {H' : Hot}, Gd w → Wr w d x → fzW x w.H = some (v, H') → ∃ w', w'.S = w.S ∧ w'.H = H' ∧ w'.rho = w.rho ∧ Gd w' ∧ Up w w' ∧ Cv w'.Live w'.S d v
  | w, .v x, _, _, _, g, .v h, e => by
    unfold fzW at e
    cases e
    exact ⟨w, rfl, rfl, rfl, g, .refl, h⟩
  | w, .r m, _, _, _, g, .r h, e => fz_r g h e
  | w, .t ws, _, _, _, g, .t h, e => by
    unfold fzW at e
    split at e
    · rename_i xs H1 e1
      cases e
      obtain ⟨w', a, b, b2, c, u, q⟩ := fzWs_ok g h e1
      exact ⟨w', a, b, b2, c, u, .tup q⟩
    · cases e
  | w, .q _ _, _, _, _, g, .q h, e => by unfold fzW at e; cases e
theorem fzWs_ok : ∀ {w : Wo} {x : List W} {d : List D} {v : List V0} {H' : Hot}, Gd w → Wrs w d x → fzWs x w.H = some (v, H') → ∃ w', w'.S = w.S ∧ w'.H = H' ∧ w'.rho = w.rho ∧ Gd w' ∧ Up w w' ∧ Cvs w'.Live w'.S d v
  | w, [], _, _, _, g, .nil, e => by
    unfold fzWs at e
    cases e
    exact ⟨w, rfl, rfl, rfl, g, .refl, .nil⟩
  | w, x :: r, _, _, _, g, .cons h t, e => by
    unfold fzWs at e
    split at e
    · rename_i v1 H1 e1
      split at e
      · rename_i vs H2 e2
        cases e
        obtain ⟨w1, a, b, b2, c, u, q⟩ := fzW_ok g h e1
        subst b
        obtain ⟨w2, a', b', b2', c', u', q'⟩ := fzWs_ok c (t.up u) e2
        exact ⟨w2, a'.trans a, b', b2'.trans b2, c', u.trans u', .cons (q.up u'.ext) q'⟩
      · cases e
    · cases e
end

/-! ### what is written, read -/
def HE.val : HE → Option V0
  | .live (.lst vs) => some (.lst vs)
  | .cold x => some x
  | _ => none
/-- a row -/
def rowV (H : Hot) (m i : Nat) : Option (List V0) := match H[m]? with
  | some (.live (.ll rows)) => rows[i]?
  | _ => none
theorem RwR.get {L : Nat → Prop} {S : Sto} : ∀ {ns : List Nat} {rows : List (List V0)} {i : Nat} {row : List V0}, RwR L S ns rows → rows[i]? = some row → ∃ k es, ns[i]? = some k ∧ S[k]? = some (.lst es) ∧ Cvs L S es row
  | _, _, 0, _, .cons ⟨es, a, b⟩ _, e => by cases e; exact ⟨_, es, rfl, a, b⟩
  | _, _, i + 1, _, .cons _ t, e => RwR.get (i := i) t e
theorem row_val {w : Wo} (g : Gd w) {m i : Nat} {d : D} {row : List V0} (h : w.rowAt m i d) (e : rowV w.H m i = some row) : ∃ n ns rows k es, w.H[m]? = some (.live (.ll rows)) ∧ rows[i]? = some row ∧ w.rho[m]? = some (.loc n) ∧ w.fps[m]? = some (n :: ns) ∧ (n :: ns).Nodup ∧ w.S[n]? = some (.lst (ns.map .loc)) ∧ RwR w.Live w.S ns rows ∧ d = .loc k ∧ ns[i]? = some k ∧ w.S[k]? = some (.lst es) ∧ Cvs w.Live w.S es row := by
  unfold rowV at e
  split at e
  · rename_i rows he
    obtain ⟨d0, fp, a1, a2, n, ns, rfl, rfl, nd, a3, a4⟩ := g.ob m _ he
    obtain ⟨k, es, b1, b2, b3⟩ := a4.get e
    unfold Wo.rowAt at h
    rw [he] at h
    obtain ⟨n', ds, c1, c2, c3⟩ := h
    rw [a1] at c1
    cases c1
    rw [a3] at c2
    cases c2
    rw [List.getElem?_map, b1] at c3
    cases c3
    exact ⟨n, ns, rows, k, es, he, e, a1, a2, nd, a3, a4, rfl, b1, b2, b3⟩
  · cases e
mutual
def dvW (H : Hot) : W → Option V0
  | .v x => some x
  | .r m => H[m]?.bind HE.val
  | .t ws => (dvWs H ws).map .tup
  | .q m i => (rowV H m i).map .lst
def dvWs (H : Hot) : List W → Option (List V0)
  | [] => some []
  | x :: r => match dvW H x, dvWs H r with
    | some v, some vs => some (v :: vs)
    | _, _ => none
end
def bvW (H : Hot) : W → Option V0
  | .v x => some x
  | .r m => H[m]?.bind HE.val
  | .t _ => none
  | .q m i => (rowV H m i).map .lst
/-- a value, or a list that is written -/
def Bv (L : Nat → Prop) (S : Sto) (d : D) (x : V0) : Prop := Cv L S d x ∨ ∃ n ds vs, d = .loc n ∧ x = .lst vs ∧ S[n]? = some (.lst ds) ∧ Cvs L S ds vs
theorem Bv.dv {L : Nat → Prop} {S : Sto} {d : D} {x : V0} (h : Bv L S d x) : Dv S d x := by
  rcases h with h | ⟨n, ds, vs, rfl, rfl, e, c⟩
  · exact h.dv
  · exact .loc (fun z => z) e c.dv
theorem val_r {w : Wo} (g : Gd w) {m : Nat} {d : D} {x : V0} (h : w.rho[m]? = some d) (e : w.H[m]?.bind HE.val = some x) : Bv w.Live w.S d x := by
  obtain ⟨he, e1, e2⟩ := Option.bind_eq_some_iff.mp e
  obtain ⟨d', fp, q1, q2, q3⟩ := g.ob m he e1
  rw [h] at q1
  cases q1
  cases he with
  | live ht =>
    cases ht with
    | lst vs => cases e2; obtain ⟨n, ds, rfl, rfl, a, c⟩ := q3; exact .inr ⟨n, ds, vs, rfl, rfl, a, c⟩
    | _ => cases e2
  | cold y => cases e2; exact .inl q3.2
  | gone => cases e2
theorem val_q {w : Wo} (g : Gd w) {m i : Nat} {d : D} {x : V0} (h : w.rowAt m i d) (e : (rowV w.H m i).map V0.lst = some x) : Bv w.Live w.S d x := by
  obtain ⟨row, e1, rfl⟩ := Option.map_eq_some_iff.mp e
  obtain ⟨n, ns, rows, k, es, _, _, _, _, _, _, _, rfl, _, b2, b3⟩ := row_val g h e1
  exact .inr ⟨k, es, row, rfl, rfl, b2, b3⟩
mutual
theorem dvW_ok {w : Wo} (g : Gd w) : ∀ {x : W} {d : D} {v : V0}, Wr w d x → dvW w.H x = some v → Dv w.S d v
  | .v x, _, _, .v h, e => by unfold dvW at e; cases e; exact h.dv
  | .r m, _, _, .r h, e => by unfold dvW at e; exact (val_r g h e).dv
  | .t ws, _, _, .t h, e => by
    unfold dvW at e
    obtain ⟨xs, e1, rfl⟩ := Option.map_eq_some_iff.mp e
    exact .tup (dvWs_ok g h e1)
  | .q m i, _, _, .q h, e => by unfold dvW at e; exact (val_q g h e).dv
theorem dvWs_ok {w : Wo} (g : Gd w) : ∀ {x : List W} {d : List D} {v : List V0}, Wrs w d x → dvWs w.H x = some v → Dvs w.S d v
  | [], _, _, .nil, e => by unfold dvWs at e; cases e; exact .nil
  | x :: r, _, _, .cons h t, e => by
    unfold dvWs at e
    split at e
    · rename_i v vs e1 e2
      cases e
      exact .cons (dvW_ok g h e1) (dvWs_ok g t e2)
    · cases e
end
theorem bvW_ok {w : Wo} (g : Gd w) {x : W} {d : D} {v : V0} (h : Wr w d x) (e : bvW w.H x = some v) : Bv w.Live w.S d v := by
  cases h with
  | v h => cases e; exact .inl h
  | r h => exact val_r g h e
  | t h => cases e
  | q h => exact val_q g h e
end PV

set_option Elab.async false
set_option linter.all false
set_option maxRecDepth 100000
set_option maxHeartbeats 3999000
namespace PV
open L2 PyProof.Rows PySem PySem.Spec

/-! ### data as a whole -/
mutual
def pdV : V0 → Option PyData
  | .non => some .none
  | .bl b => some (.bool b)
  | .int i => some (.int i)
  | .str x => some (.str x)
  | .tup xs => (pdVs xs).map .tuple
  | .lst xs => (pdVs xs).map .list
  | .fz xs => (pdVs xs).map .list
  | _ => none
def pdVs : List V0 → Option (List PyData)
  | [] => some []
  | x :: r => match pdV x, pdVs r with
    | some p, some ps => some (p :: ps)
    | _, _ => none
end
theorem dv_loc {S : Sto} {n : Nat} {xs : List V0} (h : Dv S (.loc n) (.lst xs)) : ∃ ds, lstAt S n = some ds ∧ Dvs S ds xs := by
  cases h with
  | loc _ e r => exact ⟨_, by simp [lstAt, e], r⟩
mutual
theorem snap_of {S : Sto} : ∀ {d : D} {v : V0} {p : PyData} {k : Nat}, Dv S d v → pdV v = some p → p.depth ≤ k → snap S k d = some p
  | _, _, _, k, .non, e, _ => by unfold pdV at e; cases e; cases k <;> rfl
  | _, _, _, k, .bl _, e, _ => by unfold pdV at e; cases e; cases k <;> rfl
  | _, _, _, k, .int _, e, _ => by unfold pdV at e; cases e; cases k <;> rfl
  | _, _, _, k, .str _, e, _ => by unfold pdV at e; cases e; cases k <;> rfl
  | _, _, _, k, .tup h, e, hd => by
    unfold pdV at e
    obtain ⟨ps, e1, rfl⟩ := Option.map_eq_some_iff.mp e
    unfold PyData.depth at hd
    obtain ⟨m, rfl⟩ : ∃ m, k = m + 1 := ⟨k - 1, by omega⟩
    show (mapO (snap S m) _).map PyData.tuple = _
    rw [snaps_of h e1 (by omega)]
    rfl
  | _, _, _, k, .fz h, e, hd => by
    unfold pdV at e
    obtain ⟨ps, e1, rfl⟩ := Option.map_eq_some_iff.mp e
    unfold PyData.depth at hd
    obtain ⟨m, rfl⟩ : ∃ m, k = m + 1 := ⟨k - 1, by omega⟩
    show (mapO (snap S m) _).map PyData.list = _
    rw [snaps_of h e1 (by omega)]
    rfl
  | _, _, _, k, .loc (n := n) (ds := ds) _ q h, e, hd => by
    unfold pdV at e
    obtain ⟨ps, e1, rfl⟩ := Option.map_eq_some_iff.mp e
    unfold PyData.depth at hd
    obtain ⟨m, rfl⟩ : ∃ m, k = m + 1 := ⟨k - 1, by omega⟩
    have : lstAt S n = some ds := by unfold lstAt; rw [q]
    show (match lstAt S n with
      | some ds => (mapO (snap S m) ds).map PyData.list
      | none => none) = _
    rw [this]
    show (mapO (snap S m) _).map PyData.list = _
    rw [snaps_of h e1 (by omega)]
    rfl
  | _, _, _, _, .ty _, e, _ => by unfold pdV at e; cases e
  | _, _, _, _, .gl _, e, _ => by unfold pdV at e; cases e
theorem snaps_of {S : Sto} : ∀ {d : List D} {v : List V0} {p : List PyData} {k : Nat}, Dvs S d v → pdVs v = some p → PyData.depthAll p ≤ k → mapO (snap S k) d = some p
  | _, _, _, _, .nil, e, _ => by unfold pdVs at e; cases e; rfl
  | _, _, _, k, .cons h r, e, hd => by
    unfold pdVs at e
    split at e
    · rename_i p ps e1 e2
      cases e
      unfold PyData.depthAll at hd
      unfold mapO
      rw [snap_of h e1 (by omega), snaps_of r e2 (by omega)]
    · cases e
end
theorem shp_dep {p : PyData} (h : SeqAt.shaped p = true) : p.depth ≤ deep := by
  unfold SeqAt.shaped at h
  rw [Bool.and_eq_true, decide_eq_true_eq] at h
  exact h.2
def eqV (a b : V0) : Option Bool := match pdV a, pdV b with
  | some p, some q => if SeqAt.shaped p = true ∧ SeqAt.shaped q = true then some (PyData.eqv p q) else none
  | _, _ => none
theorem eqV_ok {S : Sto} {d e : D} {x y : V0} {b : Bool} (h1 : Dv S d x) (h2 : Dv S e y) (h : eqV x y = some b) : eqO S d e = some b := by
  unfold eqV at h
  split at h
  · rename_i p q e1 e2
    split at h
    · rename_i hs
      cases h
      unfold eqO
      rw [snap_of h1 e1 (shp_dep hs.1), snap_of h2 e2 (shp_dep hs.2)]
      exact if_pos hs
    · cases h
  · cases h
def inV (a b : V0) : Option Bool := match pdV a, pdV b with
  | some p, some (.list bs) => if SeqAt.shaped p = true ∧ SeqAt.shaped (.list bs) = true then some (bs.any fun z => PyData.eqv z p) else none
  | some p, some (.tuple bs) => if SeqAt.shaped p = true ∧ SeqAt.shaped (.tuple bs) = true then some (bs.any fun z => PyData.eqv z p) else none
  | _, _ => none
theorem inV_ok {S : Sto} {d e : D} {x y : V0} {b : Bool} (h1 : Dv S d x) (h2 : Dv S e y) (h : inV x y = some b) : inO S d e = some b := by
  unfold inV at h
  split at h
  · rename_i p q e1 e2
    split at h
    · rename_i hs
      cases h
      unfold inO
      rw [snap_of h1 e1 (shp_dep hs.1), snap_of h2 e2 (shp_dep hs.2)]
      exact if_pos hs
    · cases h
  · rename_i p q e1 e2
    split at h
    · rename_i hs
      cases h
      unfold inO
      rw [snap_of h1 e1 (shp_dep hs.1), snap_of h2 e2 (shp_dep hs.2)]
      exact if_pos hs
    · cases h
  · cases h
def ordV (op : Oc) (a b : V0) : Option Bool := match a, b with
  | .int i, .int j => some (op.i i j)
  | a, b => (match pdV a, pdV b with
    | some p, some q => if SeqAt.shaped p = true ∧ SeqAt.shaped q = true then ordP op deep p q else none
    | _, _ => none)

/-! ### operations with two sides -/
inductive B2 where
  | add | sub | mul | fdiv | mod | pow | shl | shr | band | bor | bxor | eq | ne | ord (o : Oc) | is | isNot | in_ | notIn | ix
def B2.d : B2 → D → D → Sto → PR
  | .add => addD
  | .sub => subD
  | .mul => mulD
  | .fdiv => fdivD
  | .mod => modD
  | .pow => powD
  | .shl => shlD
  | .shr => shrD
  | .band => andD
  | .bor => orD
  | .bxor => xorD
  | .eq => eqD
  | .ne => neD
  | .ord o => ordD o
  | .is => isD
  | .isNot => isNotD
  | .in_ => inDD
  | .notIn => notInDD
  | .ix => ixDD
def isNonV : V0 → Bool
  | .non => true
  | _ => false
/-- those that give a plain thing -/
def B2.s : B2 → V0 → V0 → Option V0
  | .sub, .int i, .int j => some (.int (i - j))
  | .fdiv, .int i, .int j => if 0 < j ∧ j.natAbs.log2 < 9000 then some (.int (i / j)) else none
  | .mod, .int i, .int j => if 0 < j then some (.int (i % j)) else none
  | .pow, .int i, .int j => if powOk i j = true then some (.int (i ^ j.toNat)) else none
  | .shl, .int i, .int j => if 0 ≤ j ∧ (Builtin.Int.intBits i : Int) + j ≤ 2 ^ 27 then some (.int (i * 2 ^ j.toNat)) else none
  | .shr, .int i, .int j => if 0 ≤ j then some (.int (i / 2 ^ j.toNat)) else none
  | .band, .int i, .int j => some (.int (Builtin.bitAnd i j))
  | .bor, .int i, .int j => some (.int (Builtin.bitOr i j))
  | .bxor, .int i, .int j => some (.int (Builtin.bitXor i j))
  | .eq, a, b => (eqV a b).map .bl
  | .ne, a, b => (eqV a b).map fun z => .bl (!z)
  | .ord o, a, b => (ordV o a b).map .bl
  | .is, a, .non => some (.bl (isNonV a))
  | .isNot, a, .non => some (.bl (!isNonV a))
  | _, _, _ => none
/-- what has no parts: it lies everywhere -/
def Pl (d : D) (v : V0) : Prop := ∀ (L : Nat → Prop) (S : Sto), Cv L S d v
theorem isNon_ok {S : Sto} {d : D} {x : V0} (h : Dv S d x) : isNon d = isNonV x := by cases h <;> rfl
theorem s_ok {S : Sto} {o : B2} {d e : D} {x y v : V0} (h1 : Dv S d x) (h2 : Dv S e y) (h : o.s x y = some v) : ∃ r, o.d d e S = some (r, S) ∧ Pl r v := by
  cases o with
  | add => unfold B2.s at h; cases h
  | mul => unfold B2.s at h; cases h
  | in_ => unfold B2.s at h; cases h
  | notIn => unfold B2.s at h; cases h
  | ix => unfold B2.s at h; cases h
  | eq =>
    simp only [B2.s] at h
    obtain ⟨b, e1, rfl⟩ := Option.map_eq_some_iff.mp h
    exact ⟨.bl b, by show (eqO S d e).map _ = _; rw [eqV_ok h1 h2 e1]; rfl, fun _ _ => .bl b⟩
  | ne =>
    simp only [B2.s] at h
    obtain ⟨b, e1, rfl⟩ := Option.map_eq_some_iff.mp h
    exact ⟨.bl (!b), by show (eqO S d e).map _ = _; rw [eqV_ok h1 h2 e1]; rfl, fun _ _ => .bl _⟩
  | ord o =>
    simp only [B2.s] at h
    obtain ⟨b, e1, rfl⟩ := Option.map_eq_some_iff.mp h
    refine ⟨.bl b, ?_, fun _ _ => .bl _⟩
    unfold ordV at e1
    split at e1
    · cases e1; cases h1; cases h2; rfl
    · rename_i hne
      split at e1
      · rename_i p q q1 q2
        split at e1
        · rename_i hs
          have ho : ordO o S d e = some b := by
            unfold ordO
            rw [snap_of h1 q1 (shp_dep hs.1), snap_of h2 q2 (shp_dep hs.2)]
            exact (if_pos hs).trans e1
          show ordD o d e S = _
          unfold ordD
          split
          · cases h1; cases h2; exact (hne _ _ rfl rfl).elim
          · rw [ho]; rfl
        · cases e1
      · cases e1
  | is =>
    cases y <;> simp only [B2.s] at h <;> first | (cases h; cases h2; exact ⟨_, by show some (D.bl (isNon d), S) = _; rw [isNon_ok h1], fun _ _ => .bl _⟩) | cases h
  | isNot =>
    cases y <;> simp only [B2.s] at h <;> first | (cases h; cases h2; exact ⟨_, by show some (D.bl (!isNon d), S) = _; rw [isNon_ok h1], fun _ _ => .bl _⟩) | cases h
  | _ =>
    cases x <;> cases y <;> simp only [B2.s] at h <;> first
      | (cases h; done)
      | (cases h1; cases h2; cases h; exact ⟨_, rfl, fun _ _ => .int _⟩)
      | (cases h1; cases h2; split at h <;> first | (cases h; exact ⟨_, if_pos ‹_›, fun _ _ => .int _⟩) | cases h)

/-! ### those that make a list -/
def lisV : V0 → Option (List V0)
  | .lst xs => some xs
  | .fz xs => some xs
  | _ => none
def seqV : V0 → Option (List V0)
  | .lst xs => some xs
  | .fz xs => some xs
  | .tup xs => some xs
  | _ => none
theorem bv_loc {L : Nat → Prop} {S : Sto} {d : D} {vs : List V0} (h : Bv L S d (.lst vs)) : ∃ n ds, d = .loc n ∧ lstAt S n = some ds ∧ Cvs L S ds vs := by
  rcases h with h | ⟨n, ds, vs', rfl, e, e2, c⟩
  · cases h with
    | loc z e c => exact ⟨_, _, rfl, by simp [lstAt, e], c⟩
  · cases e
    exact ⟨n, ds, rfl, by simp [lstAt, e2], c⟩
theorem bv_lis {L : Nat → Prop} {S : Sto} {d : D} {x : V0} {vs : List V0} (h : Bv L S d x) (hx : lisV x = some vs) : ∃ ds, lisOf S d = some ds ∧ seqOf S d = some ds ∧ Cvs L S ds vs := by
  cases x <;> first | (cases hx; done) | skip
  · cases hx
    obtain ⟨n, ds, rfl, e, c⟩ := bv_loc h
    exact ⟨ds, e, e, c⟩
  · cases hx
    rcases h with h | ⟨n, ds, vs', rfl, e, e2, c⟩
    · cases h with
      | fz c => exact ⟨_, rfl, rfl, c⟩
    · cases e
theorem bv_seq {L : Nat → Prop} {S : Sto} {d : D} {x : V0} {vs : List V0} (h : Bv L S d x) (hx : seqV x = some vs) : ∃ ds, seqOf S d = some ds ∧ Cvs L S ds vs := by
  cases x <;> first | (cases hx; done) | skip
  · cases hx
    rcases h with h | ⟨n, ds, vs', rfl, e, e2, c⟩
    · cases h with
      | tup c => exact ⟨_, rfl, c⟩
    · cases e
  · obtain ⟨ds, _, a, b⟩ := bv_lis h hx
    exact ⟨ds, a, b⟩
  · obtain ⟨ds, _, a, b⟩ := bv_lis h hx
    exact ⟨ds, a, b⟩
theorem bv_tup {L : Nat → Prop} {S : Sto} {d : D} {vs : List V0} (h : Bv L S d (.tup vs)) : ∃ ds, d = .tup ds ∧ Cvs L S ds vs := by
  rcases h with h | ⟨n, ds, vs', rfl, e, e2, c⟩
  · cases h with
    | tup c => exact ⟨_, rfl, c⟩
  · cases e
/-- the outcome of such an operation -/
def Mk (L : Nat → Prop) (S : Sto) (r : PR) : V0 → Prop
  | .lst vs => ∃ ds, r = some (.loc S.length, S ++ [.lst ds]) ∧ Cvs L S ds vs
  | v => ∃ d, r = some (d, S) ∧ Cv L S d v
def addV (a b : V0) : Option V0 := match a, b with
  | .int i, .int j => some (.int (i + j))
  | .str x, .str y => if x.length + y.length ≤ sizeLine then some (.str (x ++ y)) else none
  | .tup xs, .tup ys => if xs.length + ys.length ≤ sizeLine then some (.tup (xs ++ ys)) else none
  | a, b => (match lisV a, lisV b with
    | some xs, some ys => if xs.length + ys.length ≤ sizeLine then some (.lst (xs ++ ys)) else none
    | _, _ => none)
theorem addD_lis {S : Sto} {d e : D} {xs ys : List D} (h1 : lisOf S d = some xs) (h2 : lisOf S e = some ys) : addD d e S = if xs.length + ys.length ≤ sizeLine then some (.loc S.length, S ++ [.lst (xs ++ ys)]) else none := by
  cases d <;> first | (cases h1; done) | (cases e <;> first | (cases h2; done) | (unfold addD; simp [h1, h2]))
theorem add_ok {L : Nat → Prop} {S : Sto} {d e : D} {x y v : V0} (h1 : Bv L S d x) (h2 : Bv L S e y) (h : addV x y = some v) : Mk L S (addD d e S) v := by
  unfold addV at h
  split at h
  · cases h
    cases h1.dv; cases h2.dv
    exact ⟨_, rfl, .int _⟩
  · split at h
    · rename_i hz
      cases h
      cases h1.dv; cases h2.dv
      exact ⟨_, if_pos hz, .str _⟩
    · cases h
  · split at h
    · rename_i hz
      cases h
      obtain ⟨ds, rfl, c⟩ := bv_tup h1
      obtain ⟨es, rfl, c'⟩ := bv_tup h2
      exact ⟨_, if_pos (by rw [c.length, c'.length]; exact hz), .tup (c.append c')⟩
    · cases h
  · split at h
    · rename_i xs ys q1 q2
      split at h
      · rename_i hz
        cases h
        obtain ⟨ds, e1, _, c⟩ := bv_lis h1 q1
        obtain ⟨es, e2, _, c'⟩ := bv_lis h2 q2
        exact ⟨_, (addD_lis e1 e2).trans (if_pos (by rw [c.length, c'.length]; exact hz)), c.append c'⟩
      · cases h
    · cases h
def mulV (a b : V0) : Option V0 := match a, b with
  | .int i, .int j => if mulOk i j = true then some (.int (i * j)) else none
  | .lst xs, .int k => if -(2 ^ 63) ≤ k ∧ k < 2 ^ 63 ∧ xs.length * k.toNat ≤ sizeLine then some (.lst (List.replicate k.toNat xs).flatten) else none
  | _, _ => none
theorem mul_ok {L : Nat → Prop} {S : Sto} {d e : D} {x y v : V0} (h1 : Bv L S d x) (h2 : Bv L S e y) (h : mulV x y = some v) : Mk L S (mulD d e S) v := by
  unfold mulV at h
  split at h
  · split at h
    · rename_i hz
      cases h
      cases h1.dv; cases h2.dv
      exact ⟨_, if_pos hz, .int _⟩
    · cases h
  · split at h
    · rename_i xs k hz
      cases h
      cases h2.dv
      obtain ⟨n, ds, rfl, e1, c⟩ := bv_loc h1
      refine ⟨_, ?_, c.rep k.toNat⟩
      show (match lstAt S n with
        | some xs => if -(2 ^ 63) ≤ k ∧ k < 2 ^ 63 ∧ xs.length * k.toNat ≤ sizeLine then some (D.loc S.length, S ++ [SO.lst (List.replicate k.toNat xs).flatten]) else none
        | none => none) = _
      rw [e1]
      exact if_pos (by rw [c.length]; exact hz)
    · cases h
  · cases h

/-! ### an item -/
def ixV (a b : V0) : Option V0 := match a, b with
  | .tup xs, .int i => atI xs i
  | .lst xs, .int i => atI xs i
  | .fz xs, .int i => atI xs i
  | .str z, .int i => if z.length ≤ sizeLine then (atI z.cps.toList i).map fun c => .str ⟨#[c]⟩ else none
  | _, _ => none
theorem atI_cv {L : Nat → Prop} {S : Sto} {ds : List D} {vs : List V0} {i : Int} {v : V0} (c : Cvs L S ds vs) (h : atI vs i = some v) : ∃ d, atI ds i = some d ∧ Cv L S d v := by
  unfold atI at h ⊢
  rw [c.length]
  cases hx : ixN vs.length i with
  | none => rw [hx] at h; cases h
  | some j => rw [hx] at h; exact c.get h
theorem seq_noDc {S : Sto} {d : D} {ds : List D} (h : seqOf S d = some ds) : isDc S d = none := by
  cases d with
  | loc n =>
    have h : lstAt S n = some ds := h
    unfold lstAt at h
    unfold isDc
    split at h
    · rename_i e; simp [e]
    · cases h
  | _ => rfl
theorem ix_ok {L : Nat → Prop} {S : Sto} {d e : D} {x y v : V0} (h1 : Bv L S d x) (h2 : Dv S e y) (h : ixV x y = some v) : ∃ r, ixDD d e S = some (r, S) ∧ Cv L S r v := by
  have key : ∀ {vs : List V0} {i : Int}, seqV x = some vs → e = .int i → atI vs i = some v → ∃ r, ixDD d e S = some (r, S) ∧ Cv L S r v := by
    intro vs i hx he hi
    subst he
    obtain ⟨ds, e1, c⟩ := bv_seq h1 hx
    obtain ⟨r, e2, c1⟩ := atI_cv c hi
    refine ⟨r, ?_, c1⟩
    unfold ixDD
    rw [seq_noDc e1]
    unfold ixD
    simp [e1, e2]
  unfold ixV at h
  split at h
  · cases h2; exact key rfl rfl h
  · cases h2; exact key rfl rfl h
  · cases h2; exact key rfl rfl h
  · split at h
    · rename_i hz
      obtain ⟨c, e1, rfl⟩ := Option.map_eq_some_iff.mp h
      cases h2
      cases h1.dv
      refine ⟨_, ?_, .str _⟩
      show (if _ then (atI _ _).map _ else none) = _
      rw [if_pos hz, e1]
      rfl
    · cases h
  · cases h

/-! ### slices -/
def cutG {α : Type} (xs : List α) (lo hi : Option Int) : List α := (xs.drop (_root_.HT.sIx xs.length 0 lo)).take (_root_.HT.sIx xs.length xs.length hi - _root_.HT.sIx xs.length 0 lo)
def slV (x : V0) (lo hi : Option Int) : Option V0 := match x with
  | .tup xs => some (.tup (cutG xs lo hi))
  | x => (match lisV x with
    | some xs => some (.lst (cutG xs lo hi))
    | none => none)
theorem cut_cv {L : Nat → Prop} {S : Sto} {ds : List D} {vs : List V0} {lo hi : Option Int} (c : Cvs L S ds vs) : Cvs L S (cutD ds lo hi) (cutG vs lo hi) := by
  unfold cutD cutG
  rw [← c.length]
  exact (c.drop _).take _
theorem slD_lis {S : Sto} {d : D} {xs : List D} {lo hi : Option Int} (h1 : lisOf S d = some xs) : slD d lo hi S = some (.loc S.length, S ++ [.lst (cutD xs lo hi)]) := by
  cases d <;> first | (cases h1; done) | (unfold slD; simp [h1])
theorem sl_ok {L : Nat → Prop} {S : Sto} {d : D} {x v : V0} {lo hi : Option Int} (h1 : Bv L S d x) (h : slV x lo hi = some v) : Mk L S (slD d lo hi S) v := by
  unfold slV at h
  split at h
  · cases h
    obtain ⟨ds, rfl, c⟩ := bv_tup h1
    exact ⟨_, rfl, .tup (cut_cv c)⟩
  · split at h
    · rename_i xs q
      cases h
      obtain ⟨ds, e, _, c⟩ := bv_lis h1 q
      exact ⟨_, slD_lis e, cut_cv c⟩
    · cases h
def revV (x : V0) : Option V0 := match x with
  | .tup xs => some (.tup xs.reverse)
  | x => (match lisV x with
    | some xs => some (.lst xs.reverse)
    | none => none)
theorem revD_lis {S : Sto} {d : D} {xs : List D} (h1 : lisOf S d = some xs) : revD d S = some (.loc S.length, S ++ [.lst xs.reverse]) := by
  cases d <;> first | (cases h1; done) | (unfold revD; simp [h1])
theorem rev_ok {L : Nat → Prop} {S : Sto} {d : D} {x v : V0} (h1 : Bv L S d x) (h : revV x = some v) : Mk L S (revD d S) v := by
  unfold revV at h
  split at h
  · cases h
    obtain ⟨ds, rfl, c⟩ := bv_tup h1
    exact ⟨_, rfl, .tup c.reverse⟩
  · split at h
    · rename_i xs q
      cases h
      obtain ⟨ds, e, _, c⟩ := bv_lis h1 q
      exact ⟨_, revD_lis e, c.reverse⟩
    · cases h

/-! ### built-in functions -/
inductive B1 where
  | len | abs | int | all | any | sum | max | min | repr | isi | tuple | list | sorted
def B1.d : B1 → List D → Sto → PR
  | .len => lenD
  | .abs => absD
  | .int => intD
  | .all => allD
  | .any => anyD
  | .sum => sumD
  | .max => maxD
  | .min => minD
  | .repr => reprD
  | .isi => isiD
  | .tuple => tupleD
  | .list => listD
  | .sorted => sortedD
def boolsV : List V0 → Option (List Bool) := mapO fun d => match d with
  | .bl b => some b
  | _ => none
def intsV : List V0 → Option (List Int) := mapO fun d => match d with
  | .int i => some i
  | _ => none
theorem bools_ok {S : Sto} : ∀ {ds : List D} {vs : List V0} {bs : List Bool}, Dvs S ds vs → boolsV vs = some bs → boolsOf ds = some bs
  | _, _, _, .nil, e => e
  | _, _, _, .cons h r, e => by
    obtain ⟨b, bs', e1, e2, rfl⟩ := mapO_cons e
    have ih := bools_ok r e2
    unfold boolsOf at ih ⊢
    cases h <;> first | (cases e1; done) | (cases e1; unfold mapO; rw [ih])
theorem ints_ok {S : Sto} : ∀ {ds : List D} {vs : List V0} {bs : List Int}, Dvs S ds vs → intsV vs = some bs → intsOf ds = some bs
  | _, _, _, .nil, e => e
  | _, _, _, .cons h r, e => by
    obtain ⟨b, bs', e1, e2, rfl⟩ := mapO_cons e
    have ih := ints_ok r e2
    unfold intsOf at ih ⊢
    cases h <;> first | (cases e1; done) | (cases e1; unfold mapO; rw [ih])
def kdV : V0 → Option Kd
  | .non => some .non
  | .bl _ => some .bool
  | .int _ => some .int
  | .str _ => some .str
  | .tup _ => some .tuple
  | .lst _ => some .list
  | .fz _ => some .list
  | _ => none
def tyV : V0 → Option Kd
  | .ty n => Kd.ofS n
  | _ => none
theorem kd_ok {S : Sto} {d : D} {x : V0} {k : Kd} (h : Dv S d x) (e : kdV x = some k) : kdOf S d = some k := by
  cases h <;> first | exact e | (cases e; done) | (cases e; rename_i q _; unfold kdOf; simp [q])
theorem ty_ok' {S : Sto} {d : D} {x : V0} {k : Kd} (h : Dv S d x) (e : tyV x = some k) : tyOf d = some k := by
  cases h <;> first | exact e | (cases e; done)
theorem tys_ok {S : Sto} : ∀ {ds : List D} {vs : List V0} {bs : List Kd}, Dvs S ds vs → mapO tyV vs = some bs → mapO tyOf ds = some bs
  | _, _, _, .nil, e => e
  | _, _, _, .cons h r, e => by
    obtain ⟨b, bs', e1, e2, rfl⟩ := mapO_cons e
    unfold mapO
    rw [ty_ok' h e1, tys_ok r e2]
/-- those that give a plain thing -/
def B1.s : B1 → List V0 → Option V0
  | .len, [x] => (match seqV x with
    | some xs => some (.int xs.length)
    | none => (match x with
      | .str z => if z.length ≤ sizeLine then some (.int z.length) else none
      | _ => none))
  | .abs, [.int i] => some (.int (if i < 0 then -i else i))
  | .int, [.int i] => some (.int i)
  | .int, [.bl b] => some (.int (if b then 1 else 0))
  | .all, [x] => (match (lisV x).bind boolsV with
    | some bs => some (.bl (bs.all id))
    | none => none)
  | .any, [x] => (match (lisV x).bind boolsV with
    | some bs => some (.bl (bs.any id))
    | none => none)
  | .sum, [x] => (match (lisV x).bind intsV with
    | some ns => some (.int ns.sum)
    | none => none)
  | .max, [.int i, .int j] => some (.int (if j > i then j else i))
  | .max, [x] => (match (lisV x).bind intsV with
    | some (n :: ns) => some (.int (maxL n ns))
    | _ => none)
  | .min, [.int i, .int j] => some (.int (if j < i then j else i))
  | .min, [x] => (match (lisV x).bind intsV with
    | some (n :: ns) => some (.int (minL n ns))
    | _ => none)
  | .repr, [.non] => some (.str "None")
  | .repr, [.bl b] => some (.str (if b then "True" else "False"))
  | .repr, [.int i] => if i.natAbs.log2 < 1920 then some (.str (toString i)) else none
  | .isi, [x, .tup cs] => (match kdV x, mapO tyV cs with
    | some k, some ks => some (.bl (ks.any k.isi))
    | _, _ => none)
  | .isi, [x, c] => (match kdV x, tyV c with
    | some k, some c => some (.bl (k.isi c))
    | _, _ => none)
  | _, _ => none
theorem dv_seq {S : Sto} {d : D} {x : V0} {vs : List V0} (h : Dv S d x) (hx : seqV x = some vs) : ∃ ds, seqOf S d = some ds ∧ Dvs S ds vs := bv_seq (.inl h) hx
theorem dv_lis {S : Sto} {d : D} {x : V0} {vs : List V0} (h : Dv S d x) (hx : lisV x = some vs) : ∃ ds, lisOf S d = some ds ∧ Dvs S ds vs := let ⟨ds, a, _, b⟩ := bv_lis (.inl h) hx; ⟨ds, a, b⟩
theorem lis_bools {S : Sto} {d : D} {x : V0} {bs : List Bool} (h : Dv S d x) (e : (lisV x).bind boolsV = some bs) : (lisOf S d).bind boolsOf = some bs := by
  obtain ⟨vs, e1, e2⟩ := Option.bind_eq_some_iff.mp e
  obtain ⟨ds, e3, c⟩ := dv_lis h e1
  rw [e3]
  exact bools_ok c e2
theorem lis_ints {S : Sto} {d : D} {x : V0} {bs : List Int} (h : Dv S d x) (e : (lisV x).bind intsV = some bs) : (lisOf S d).bind intsOf = some bs := by
  obtain ⟨vs, e1, e2⟩ := Option.bind_eq_some_iff.mp e
  obtain ⟨ds, e3, c⟩ := dv_lis h e1
  rw [e3]
  exact ints_ok c e2
theorem b1s_ok {S : Sto} {o : B1} {ds : List D} {xs : List V0} {v : V0} (h1 : Dvs S ds xs) (h : o.s xs = some v) : ∃ r, o.d ds S = some (r, S) ∧ Pl r v := by
  unfold B1.s at h
  split at h
  · cases h1 with
    | cons a r =>
    cases r
    split at h
    · rename_i xs e
      cases h
      obtain ⟨ds, e1, c⟩ := dv_seq a e
      exact ⟨.int xs.length, by simp only [B1.d]; simp [lenD, e1, c.length], fun _ _ => .int _⟩
    · split at h
      · split at h
        · rename_i hz
          cases h
          cases a
          exact ⟨_, if_pos hz, fun _ _ => .int _⟩
        · cases h
      · cases h
  · cases h
    cases h1 with
    | cons a r => cases r; cases a; exact ⟨_, rfl, fun _ _ => .int _⟩
  · cases h
    cases h1 with
    | cons a r => cases r; cases a; exact ⟨_, rfl, fun _ _ => .int _⟩
  · cases h
    cases h1 with
    | cons a r => cases r; cases a; exact ⟨_, rfl, fun _ _ => .int _⟩
  · cases h1 with
    | cons a r =>
    cases r
    split at h
    · rename_i bs e
      cases h
      exact ⟨.bl (bs.all id), by simp only [B1.d]; simp only [allD, lis_bools a e], fun _ _ => .bl _⟩
    · cases h
  · cases h1 with
    | cons a r =>
    cases r
    split at h
    · rename_i bs e
      cases h
      exact ⟨.bl (bs.any id), by simp only [B1.d]; simp only [anyD, lis_bools a e], fun _ _ => .bl _⟩
    · cases h
  · cases h1 with
    | cons a r =>
    cases r
    split at h
    · rename_i bs e
      cases h
      exact ⟨.int bs.sum, by simp only [B1.d]; simp only [sumD, lis_ints a e], fun _ _ => .int _⟩
    · cases h
  · cases h
    cases h1 with
    | cons a r => cases r with
      | cons b r => cases r; cases a; cases b; exact ⟨_, rfl, fun _ _ => .int _⟩
  · cases h1 with
    | cons a r =>
    cases r
    split at h
    · rename_i n ns e
      cases h
      refine ⟨.int (maxL n ns), ?_, fun _ _ => .int _⟩
      show maxD _ S = _
      unfold maxD
      simp only [lis_ints a e]
    · cases h
  · cases h
    cases h1 with
    | cons a r => cases r with
      | cons b r => cases r; cases a; cases b; exact ⟨_, rfl, fun _ _ => .int _⟩
  · cases h1 with
    | cons a r =>
    cases r
    split at h
    · rename_i n ns e
      cases h
      refine ⟨.int (minL n ns), ?_, fun _ _ => .int _⟩
      show minD _ S = _
      unfold minD
      simp only [lis_ints a e]
    · cases h
  · cases h
    cases h1 with
    | cons a r => cases r; cases a; exact ⟨_, rfl, fun _ _ => .str _⟩
  · cases h
    cases h1 with
    | cons a r => cases r; cases a; exact ⟨_, rfl, fun _ _ => .str _⟩
  · split at h
    · rename_i hz
      cases h
      cases h1 with
      | cons a r => cases r; cases a; exact ⟨_, if_pos hz, fun _ _ => .str _⟩
    · cases h
  · cases h1 with
    | cons a r => cases r with
      | cons b r =>
      cases r
      cases b with
      | tup c =>
      split at h
      · rename_i k ks e1 e2
        cases h
        refine ⟨.bl (ks.any k.isi), ?_, fun _ _ => .bl _⟩
        simp only [B1.d, isiD, kd_ok a e1, tys_ok c e2]
      · cases h
  · rename_i hne
    cases h1 with
    | cons a r => cases r with
      | cons b r =>
      cases r
      split at h
      · rename_i k c e1 e2
        cases h
        refine ⟨.bl (k.isi c), ?_, fun _ _ => .bl _⟩
        have := ty_ok' b e2
        cases b <;> first | (cases e2; done) | (simp only [B1.d, isiD, kd_ok a e1, this])
      · cases h
  · cases h

/-! ### keys, sorting -/
mutual
def tkV : V0 → Option TK
  | .int i => some (.int i)
  | .str x => some (.str x)
  | .tup xs => (tkVs xs).map .tup
  | _ => none
def tkVs : List V0 → Option (List TK)
  | [] => some []
  | d :: r => match tkV d, tkVs r with
    | some k, some ks => some (k :: ks)
    | _, _ => none
end
mutual
theorem tk_ok {L : Nat → Prop} {S : Sto} : ∀ {d : D} {x : V0} {k : TK}, Cv L S d x → tkV x = some k → tkOf d = some k
  | _, _, _, .int i, e => by unfold tkV at e; unfold tkOf; exact e
  | _, _, _, .str i, e => by unfold tkV at e; unfold tkOf; exact e
  | _, _, _, .tup c, e => by
    unfold tkV at e
    unfold tkOf
    obtain ⟨ks, e1, rfl⟩ := Option.map_eq_some_iff.mp e
    rw [tks_ok c e1]
    rfl
  | _, _, _, .non, e => by unfold tkV at e; cases e
  | _, _, _, .bl _, e => by unfold tkV at e; cases e
  | _, _, _, .fz _, e => by unfold tkV at e; cases e
  | _, _, _, .loc _ _ _, e => by unfold tkV at e; cases e
  | _, _, _, .ty _, e => by unfold tkV at e; cases e
  | _, _, _, .gl _, e => by unfold tkV at e; cases e
theorem tks_ok {L : Nat → Prop} {S : Sto} : ∀ {d : List D} {x : List V0} {k : List TK}, Cvs L S d x → tkVs x = some k → tksOf d = some k
  | _, _, _, .nil, e => by unfold tkVs at e; unfold tksOf; exact e
  | _, _, _, .cons h r, e => by
    unfold tkVs at e
    split at e
    · rename_i k ks e1 e2
      cases e
      unfold tksOf
      rw [tk_ok h e1, tks_ok r e2]
    · cases e
end
def skeyV (d : V0) : TK := (tkV d).getD (.int 0)
def ltV (d e : V0) : Bool := TK.lt (skeyV d) (skeyV e)
def sortOkV (ds : List V0) : Bool := match mapO tkV ds with
  | some ks => kindOk ks && cokAll ks
  | none => false
theorem mapO_tk {L : Nat → Prop} {S : Sto} : ∀ {ds : List D} {vs : List V0} {ks : List TK}, Cvs L S ds vs → mapO tkV vs = some ks → mapO tkOf ds = some ks
  | _, _, _, .nil, e => e
  | _, _, _, .cons h r, e => by
    obtain ⟨b, bs', e1, e2, rfl⟩ := mapO_cons e
    unfold mapO
    rw [tk_ok h e1, mapO_tk r e2]
theorem ins_cv {L : Nat → Prop} {S : Sto} {d : D} {x : V0} (h : Cv L S d x) (hx : skey d = skeyV x) : ∀ {ds : List D} {vs : List V0}, Cvs L S ds vs → (mapO tkV vs).isSome = true → Cvs L S (ins ltD d ds) (ins ltV x vs)
  | _, _, .nil, _ => .cons h .nil
  | _, _, .cons (d := e) (x := y) c r, q => by
    obtain ⟨ks, hk⟩ := Option.isSome_iff_exists.mp q
    obtain ⟨b, bs', e1, e2, rfl⟩ := mapO_cons hk
    have hl : ltD e d = ltV y x := by
      unfold ltD ltV
      rw [hx]
      unfold skey skeyV
      rw [tk_ok c e1, e1]
    unfold ins
    rw [hl]
    split
    · exact .cons c (ins_cv h hx r (by rw [e2]; rfl))
    · exact .cons h (.cons c r)
theorem ins_tk {x : V0} {k : TK} (h : tkV x = some k) : ∀ {vs : List V0}, (mapO tkV vs).isSome = true → (mapO tkV (ins ltV x vs)).isSome = true
  | [], _ => by simp [ins, mapO, h]
  | y :: r, q => by
    obtain ⟨ks, hk⟩ := Option.isSome_iff_exists.mp q
    obtain ⟨b, bs', e1, e2, rfl⟩ := mapO_cons hk
    unfold ins
    split
    · have := ins_tk h (vs := r) (by rw [e2]; rfl)
      obtain ⟨z, hz⟩ := Option.isSome_iff_exists.mp this
      simp [mapO, e1, hz]
    · simp [mapO, e1, e2, h]
theorem isort_cv {L : Nat → Prop} {S : Sto} : ∀ {ds : List D} {vs : List V0}, Cvs L S ds vs → (mapO tkV vs).isSome = true → Cvs L S (isort ltD ds) (isort ltV vs) ∧ (mapO tkV (isort ltV vs)).isSome = true
  | _, _, .nil, _ => ⟨.nil, rfl⟩
  | _, _, .cons (d := e) (x := y) c r, q => by
    obtain ⟨ks, hk⟩ := Option.isSome_iff_exists.mp q
    obtain ⟨b, bs', e1, e2, rfl⟩ := mapO_cons hk
    obtain ⟨a1, a2⟩ := isort_cv r (by rw [e2]; rfl)
    have hs : skey e = skeyV y := by
      unfold skey skeyV
      rw [tk_ok c e1, e1]
    unfold isort
    exact ⟨ins_cv c hs a1 a2, ins_tk e1 a2⟩
/-- those that make a list or a tuple -/
def B1.m : B1 → List V0 → Option V0
  | .tuple, [x] => (seqV x).map .tup
  | .list, [x] => (seqV x).map .lst
  | .sorted, [x] => (match seqV x with
    | some xs => if sortOkV xs = true then some (.lst (isort ltV xs)) else none
    | none => none)
  | _, _ => none
inductive Bvs (L : Nat → Prop) (S : Sto) : List D → List V0 → Prop
  | nil : Bvs L S [] []
  | cons {d : D} {ds : List D} {x : V0} {xs : List V0} : Bv L S d x → Bvs L S ds xs → Bvs L S (d :: ds) (x :: xs)
theorem b1m_ok {L : Nat → Prop} {S : Sto} {o : B1} {ds : List D} {xs : List V0} {v : V0} (h1 : Bvs L S ds xs) (h : o.m xs = some v) : Mk L S (o.d ds S) v := by
  unfold B1.m at h
  split at h
  · obtain ⟨vs, e, rfl⟩ := Option.map_eq_some_iff.mp h
    cases h1 with
    | cons a r =>
    cases r
    obtain ⟨ds, e1, c⟩ := bv_seq a e
    exact ⟨_, by simp only [B1.d]; simp only [tupleD, e1], .tup c⟩
  · obtain ⟨vs, e, rfl⟩ := Option.map_eq_some_iff.mp h
    cases h1 with
    | cons a r =>
    cases r
    obtain ⟨ds, e1, c⟩ := bv_seq a e
    exact ⟨_, by simp only [B1.d]; simp only [listD, e1], c⟩
  · split at h
    · rename_i vs e
      split at h
      · rename_i hs
        cases h
        cases h1 with
        | cons a r =>
        cases r
        obtain ⟨ds, e1, c⟩ := bv_seq a e
        unfold sortOkV at hs
        split at hs
        · rename_i ks hk
          have hk' := mapO_tk c hk
          refine ⟨_, ?_, (isort_cv c (by rw [hk]; rfl)).1⟩
          simp only [B1.d, sortedD, e1]
          rw [if_pos]
          unfold sortOk
          rw [hk']
          exact hs
        · cases hs
      · cases h
    · cases h
  · cases h
end PV

set_option Elab.async false
set_option linter.all false
set_option maxRecDepth 100000
set_option maxHeartbeats 3999000
namespace PV
open L2 PyProof.Rows PySem PySem.Spec

/-! ### the text, deep -/
inductive C0 where
  | non | bl (b : Bool) | int (i : Int) | str (x : Str) | ty (n : String) | tup (cs : List C0)
mutual
def C0.d : C0 → D
  | .non => .non
  | .bl b => .bl b
  | .int i => .int i
  | .str x => .str x
  | .ty n => .ty n
  | .tup cs => .tup (C0.ds cs)
def C0.ds : List C0 → List D
  | [] => []
  | c :: r => c.d :: C0.ds r
end
mutual
def C0.v : C0 → V0
  | .non => .non
  | .bl b => .bl b
  | .int i => .int i
  | .str x => .str x
  | .ty n => .ty n
  | .tup cs => .tup (C0.vs cs)
def C0.vs : List C0 → List V0
  | [] => []
  | c :: r => c.v :: C0.vs r
end
inductive M1 where
  | append | extend | pop | appendH
def M1.d : M1 → D → List D → Sto → PR
  | .append => appendD
  | .extend => extendD
  | .pop => popD
  | .appendH => appendD
inductive A2 where
  | add | sub | mul
def A2.d : A2 → D → D → Sto → PR
  | .add => iaddD
  | .sub => subD
  | .mul => imulD
structure CandX where
  c : Str
  g : Str
  src : List PV.Src
  dfl : List C0
def CandX.d (x : CandX) : Cand := ⟨x.c, x.g, x.src, C0.ds x.dfl⟩
/-- targets of a tuple -/
inductive TQ where
  | nm (i : Nat) | fl (cs : List Str) (f : Str) (i : Nat) | tp (is : List Nat)
def TQ.d : TQ → FG
  | .nm i => gNm i
  | .fl cs f i => gFl cs f (eVar i)
  | .tp is => gTp (is.map gNm)
mutual
inductive EX where
  | var (i : Nat) | c (x : C0) | bin (o : B2) (kp : Bool) (a b : EX) | neg (a : EX) | tup (as : AX) | tupS (as : AX) | lst (kp : Bool) (as : AX) | lstS (kp : Bool) (as : AX) | cb (o : B1) (kp : Bool) (as : AX)
  | ifx (t : TX) (a b : EX) | and (a b : EX) | or (a b : EX) | not (a : EX) | ch (o o' : B2) (a b c : EX) | sl (kp : Bool) (a : EX) (lo hi : OX) | rev (kp : Bool) (a k : EX)
  | lc (kp : Bool) (vs : List Nat) (it : IX) (g : GX) (t : TX) (e : EX) | call (kp : Bool) (f : Str) (src : List PV.Src) (dfl : List C0) (as ks : AX) | m (o : M1) (a : EX) (as : AX) | dn
  | fld (cs : List Str) (f : Str) (a : EX) | mth (kp : Bool) (m : Str) (l : List CandX) (a : EX) (as ks : AX) | mk (kp : Bool) (f : Str) (as : AX) | lc2 (kp : Bool) (vs : List Nat) (it : IX) (g : GX) (t : TX) (it1 : IX) (vs1 : List Nat) (g1 : GX) (t1 : TX) (e : EX)
inductive AX where
  | nil | cons (e : EX) (r : AX) | star (e : EX) (r : AX)
inductive TX where
  | val (e : EX) | not (t : TX) | and (t u : TX) | or (t u : TX) | tb (e : EX) | yes
inductive OX where
  | none | some (e : EX)
inductive IX where
  | seq (e : EX) | rg (as : AX) | en (as : AX) | zp (as : AX)
inductive GX where
  | nm (i : Nat) | tp (is : List Nat) | sb (o i : EX) | fl (cs : List Str) (f : Str) (i : Nat) | tq (ts : List TQ)
end
inductive SX where
  | nil | seq (a b : SX) | brk | cnt | expr (e : EX) | ret (e : EX) | retN | if_ (t : TX) (a b : SX) | asg (e : EX) (g : GX) | par (i j : Nat) (as : AX) | par3 (i j l : Nat) (as : AX) | aug (i : Nat) (o : A2) (e : EX) | saug (o : A2) (a i e : EX) | faug (cs : List Str) (f : Str) (o : A2) (a e : EX)
  | for_ (gc : Bool) (it : IX) (g : GX) (b : SX) | while_ (gc : Bool) (t : TX) (b : SX) | stk

/-! ### what it means over the store -/
mutual
def EX.d (C : Fns) : EX → FE
  | .var i => eVar i
  | .c x => eC x.d
  | .bin o _ a b => eBin o.d (a.d C) (b.d C)
  | .neg a => eUn negD (a.d C)
  | .tup as => eTup (as.d C)
  | .tupS as => eTupS (as.d C)
  | .lst _ as => eLst (as.d C)
  | .lstS _ as => eLstS (as.d C)
  | .cb o _ as => eCB o.d (as.d C)
  | .ifx t a b => eIfx (t.d C) (a.d C) (b.d C)
  | .and a b => eAnd (a.d C) (b.d C)
  | .or a b => eOr (a.d C) (b.d C)
  | .not a => eNot (a.d C)
  | .ch o o' a b c => eCh o.d o'.d (a.d C) (b.d C) (c.d C)
  | .sl _ a lo hi => eSl (a.d C) (lo.d C) (hi.d C)
  | .rev _ a k => eRev (a.d C) (k.d C)
  | .lc _ vs it g t e => eLc vs (it.d C) (g.d C) (t.d C) (e.d C)
  | .call _ f src dfl as ks => eCall (C f) src (C0.ds dfl) (as.d C) (ks.d C)
  | .m o a as => eM o.d (a.d C) (as.d C)
  | .dn => eDn
  | .fld cs f a => eFld cs f (a.d C)
  | .mth _ m l a as ks => eMth C m (l.map CandX.d) (a.d C) (as.d C) (ks.d C)
  | .mk _ f as => eMk (C f) (as.d C)
  | .lc2 _ vs it g t it1 vs1 g1 t1 e => eLc2 vs (it.d C) (g.d C) (t.d C) (it1.d C) vs1 (g1.d C) (t1.d C) (e.d C)
def AX.d (C : Fns) : AX → FA
  | .nil => aNil
  | .cons e r => aCons (e.d C) (r.d C)
  | .star e r => aStar (e.d C) (r.d C)
def TX.d (C : Fns) : TX → FT
  | .val e => tVal (e.d C)
  | .not t => tNotF (t.d C)
  | .and t u => tAndF (t.d C) (u.d C)
  | .or t u => tOrF (t.d C) (u.d C)
  | .tb e => tB' (e.d C)
  | .yes => tYes'
def OX.d (C : Fns) : OX → FO
  | .none => oNone
  | .some e => oSome (e.d C)
def IX.d (C : Fns) : IX → FI
  | .seq e => iSeq (e.d C)
  | .rg as => iRg (as.d C)
  | .en as => iEn (as.d C)
  | .zp as => iZp (as.d C)
def GX.d (C : Fns) : GX → FG
  | .nm i => gNm i
  | .tp is => gTp (is.map gNm)
  | .sb o i => gSb (o.d C) (i.d C)
  | .fl cs f i => gFl cs f (eVar i)
  | .tq ts => gTp (ts.map TQ.d)
end
def SX.d (C : Fns) : SX → FS
  | .nil => sNil
  | .seq a b => sSeq (a.d C) (b.d C)
  | .brk => sBrk
  | .cnt => sCnt
  | .expr e => sExpr (e.d C)
  | .ret e => sRet (e.d C)
  | .retN => sRetN
  | .if_ t a b => sIf (t.d C) (a.d C) (b.d C)
  | .asg e g => sAsg (e.d C) (g.d C)
  | .par i j as => sPar i j (as.d C)
  | .par3 i j l as => sPar3 i j l (as.d C)
  | .aug i o e => sAug i o.d (e.d C)
  | .saug o a i e => sSAug o.d (a.d C) (i.d C) (e.d C)
  | .faug cs f o a e => sFAug cs f o.d (a.d C) (e.d C)
  | .for_ _ it g b => sFor (it.d C) (g.d C) (b.d C)
  | .while_ _ t b => sWhile (t.d C) (b.d C)
  | .stk => sStk

/-! ### what it means over values -/
abbrev PE0 := WEnv → Hot → Rs W
abbrev PA0 := WEnv → Hot → Rs (List W)
abbrev PT0 := WEnv → Hot → Rs Bool
abbrev PO0 := WEnv → Hot → Rs (Option Int)
abbrev PI0 := WEnv → Hot → Rs (List V0)
abbrev PG0 := W → WEnv → Hot → Rs WEnv
inductive Fw0 where
  | nx (e : WEnv) | rt (w : W) | bk (e : WEnv) | ct (e : WEnv)
abbrev PS0 := WEnv → Hot → Rs Fw0
abbrev WFns := Str → List W → Hot → Rs W
def ofW : Option (Option W) → Hot → Rs W
  | some (some w), H => .ok w H
  | _, _ => .stk
def ofV : Option V0 → Hot → Rs W
  | some v, H => .ok (.v v) H
  | none, _ => .stk
def putK : Bool → V0 → Hot → Rs W
  | true, .lst vs, H => .ok (.r H.length) (H ++ [.live (.lst vs)])
  | _, v, H => .ok (.v v) H
def ofK (kp : Bool) : Option V0 → Hot → Rs W
  | some v, H => putK kp v H
  | none, _ => .stk
def two (p : V0 → V0 → Option V0) : Option V0 → Option V0 → Option V0
  | some x, some y => p x y
  | _, _ => none
def scW (o : B2) (a b : W) (H : Hot) : Rs W := ofV (two o.s (dvW H a) (dvW H b)) H
/-! dicts -/
def dvalV {κ : Type} [DecidableEq κ] (kvs : List (κ × V0)) (k : κ) : Option V0 := (kvs.find? fun p => decide (p.1 = k)).map (·.2)
def dputV {κ : Type} [DecidableEq κ] (kvs : List (κ × V0)) (k : κ) (d : V0) : List (κ × V0) := if (dvalV kvs k).isSome = true then kvs.map (fun p => if p.1 = k then (p.1, d) else p) else kvs ++ [(k, d)]
def tkTV (d : V0) : Option TK := match d with
  | .tup ds => (match tkV (.tup ds) with
    | some k => if k.deep ≤ 8 then some k else none
    | none => none)
  | _ => none
def keySV : V0 → Option Key
  | .int i => some (.inl i)
  | .str x => some (.inr x)
  | _ => none
def dlookV (h : HT) (d : V0) : Option (Option V0 × HT) := match h with
  | .dd kvs => (match tkTV d with
    | some k => some (dvalV kvs k, .dd kvs)
    | none => none)
  | .dk kvs => (match keySV d with
    | some k => some (dvalV kvs k, .dk kvs)
    | none => (match kvs, tkTV d with
      | [], some _ => some (none, .dd [])
      | _, _ => none))
  | _ => none
def dstoreV (h : HT) (k d : V0) : Option HT := match h with
  | .dd kvs => (match tkTV k with
    | some k => if kvs.length < sizeLine then some (.dd (dputV kvs k d)) else none
    | none => none)
  | .dk kvs => (match keySV k with
    | some k => if kvs.length < sizeLine then some (.dk (dputV kvs k d)) else none
    | none => (match kvs, tkTV k with
      | [], some k => some (.dd (dputV [] k d))
      | _, _ => none))
  | _ => none
/-- a dict that is written -/
def dctAt (H : Hot) : W → Option (Nat × HT)
  | .r m => (match H[m]? with
    | some (.live (.dk kvs)) => some (m, .dk kvs)
    | some (.live (.dd kvs)) => some (m, .dd kvs)
    | _ => none)
  | _ => none
def inRes (ng : Bool) (m : Nat) (H : Hot) : Option (Option V0 × HT) → Rs W
  | some (r, h') => .ok (.v (.bl (r.isSome != ng))) (H.set m (.live h'))
  | none => .stk
def inW (ng : Bool) (a b : W) (H : Hot) : Rs W := match dctAt H b with
  | some (m, h) => inRes ng m H ((dvW H a).bind (dlookV h))
  | none => ofV ((two (fun x y => (inV x y).map fun z => .bl (z != ng)) (dvW H a) (dvW H b))) H
def ixRes (m : Nat) (H : Hot) : Option (Option V0 × HT) → Rs W
  | some (some v, h') => .ok (.v v) (H.set m (.live h'))
  | _ => .stk
def rowQ (m : Nat) (H : Hot) : Option Nat → Rs W
  | some j => .ok (.q m j) H
  | none => .stk
/-- the index of a row -/
def rowI (n : Nat) : Option V0 → Option Nat
  | some (.int i) => ixN n i
  | _ => none
def rowR (m : Nat) (H : Hot) (b : W) : Rs W := match H[m]? with
  | some (.live (.ll rows)) => rowQ m H (rowI rows.length (dvW H b))
  | o => ofV (two ixV (o.bind HE.val) (dvW H b)) H
def ixW (a b : W) (H : Hot) : Rs W := match dctAt H a with
  | some (m, h) => ixRes m H ((dvW H b).bind (dlookV h))
  | none => (match a, b with
    | .t ws, .v (.int i) => ofW ((atI ws i).map some) H
    | .r m, b => rowR m H b
    | a, b => ofV (two ixV (bvW H a) (dvW H b)) H)
def binW (o : B2) (kp : Bool) (a b : W) (H : Hot) : Rs W := match o with
  | .add => ofK kp (two addV (bvW H a) (bvW H b)) H
  | .mul => ofK kp (two mulV (bvW H a) (bvW H b)) H
  | .in_ => inW false a b H
  | .notIn => inW true a b H
  | .ix => ixW a b H
  | o => scW o a b H
def allV : List W → Option (List V0)
  | [] => some []
  | .v x :: r => (allV r).map (x :: ·)
  | _ => none
def mkT (ws : List W) : W := match allV ws with
  | some xs => .v (.tup xs)
  | none => .t ws
def truV : V0 → Option Bool
  | .non => some false
  | .bl b => some b
  | .int i => some (i != 0)
  | .str x => if x.length ≤ sizeLine then some (x.length != 0) else none
  | .tup ds => some (!ds.isEmpty)
  | .lst ds => some (!ds.isEmpty)
  | .fz ds => some (!ds.isEmpty)
  | _ => none
def truW (H : Hot) (w : W) : Option Bool := (dvW H w).bind truV
def ofT : Option Bool → Hot → Rs Bool
  | some b, H => .ok b H
  | none, _ => .stk
def bvWs (H : Hot) : List W → Option (List V0)
  | [] => some []
  | x :: r => match bvW H x, bvWs H r with
    | some v, some vs => some (v :: vs)
    | _, _ => none
def B1.isM : B1 → Bool
  | .tuple => true
  | .list => true
  | .sorted => true
  | _ => false
def cbW (o : B1) (kp : Bool) (ws : List W) (H : Hot) : Rs W := if o.isM = true then ofK kp ((bvWs H ws).bind o.m) H else ofV ((dvWs H ws).bind o.s) H
def kpLst (kp : Bool) : Option (List V0 × Hot) → Rs W
  | some (xs, H') => putK kp (.lst xs) H'
  | none => .stk
def lstW (kp : Bool) (ws : List W) (H : Hot) : Rs W := kpLst kp (fzWs ws H)
/-! calls -/
/-- what is named by these, and by what they name -/
def addN (ids : List Nat) : List Nat → List Nat
  | [] => ids
  | j :: r => addN (if ids.contains j = true then ids else ids ++ [j]) r
def refsL (H : Hot) : List Nat → List Nat
  | [] => []
  | i :: r => refsAt H i ++ refsL H r
def addR (H : Hot) (ids : List Nat) : List Nat := addN ids (refsL H ids)
def clo (H : Hot) (ids : List Nat) : List Nat := addR H (addR H ids)
def cutH (L : Nat) (H : Hot) : Hot := if closedL L H = true then H.take L else H
def finF (L : Nat) : Option (V0 × Hot) → Rs W
  | some (v, H2) => .ok (.v v) (cutH L H2)
  | none => .stk
def finW (kp : Bool) (ids : List Nat) (H : Hot) : Rs W → Rs W
  | .ok x H1 => if kp = true then .ok (bkW ids H.length x) (mrgH H ids H1) else finF H.length (fzW (bkW ids H.length x) (mrgH H ids H1))
  | .exc x H1 => .exc x (mrgH H ids H1)
  | .stk => .stk
/-- handed: the named things alone -/
def handW {α : Type} (H : Hot) (ids : List Nat) (f : List Nat → Hot → Rs α) : Rs α := if closedB H ids = true then f ids (subH H ids) else .stk
def callW (F : List W → Hot → Rs W) (kp : Bool) (ws : List W) (H : Hot) : Rs W := handW H (clo H (rens ws []).2) fun ids H' => finW kp ids H (F (rens ws []).1 H')
def endW (L : Nat) : Rs Fw0 → Rs W
  | .ok (.rt w) H => handW H (clo H (ren w (List.range L)).2) fun _ H' => .ok (ren w (List.range L)).1 H'
  | .ok (.nx _) H => handW H (clo H (List.range L)) fun _ H' => .ok (.v .non) H'
  | .ok _ _ => .stk
  | .exc x H => handW H (clo H (List.range L)) fun _ H' => .exc x H'
  | .stk => .stk
/-! instances -/
def lookF (f : Str) : List (Str × W) → Option W
  | [] => none
  | (g, x) :: r => if g = f then some x else lookF f r
def putFW (f : Str) (x : W) : List (Str × W) → List (Str × W)
  | [] => [(f, x)]
  | (g, y) :: r => if g = f then (g, x) :: r else (g, y) :: putFW f x r
/-- an instance that is written -/
def insW (H : Hot) : W → Option (Nat × Str × List (Str × W))
  | .r m => (match H[m]? with
    | some (.live (.ins c fs)) => some (m, c, fs)
    | _ => none)
  | _ => none
def fldW (cs : List Str) (f : Str) (o : W) (H : Hot) : Rs W := match insW H o with
  | some (_, c, fs) => if cs.contains c = true then ofW ((lookF f fs).map some) H else .stk
  | none => .stk
def kFldW (cs : List Str) (f : Str) : W → Hot → Rs W := fun o H => fldW cs f o H
/-- a value as a field has it -/
def fvW : W → Hot → Option (W × Hot)
  | .v x, H => some (.v x, H)
  | .r j, H => some (.r j, H)
  | w, H => (fzW w H).map fun p => (.v p.1, p.2)
def fputW (cs : List Str) (f : Str) (o : W) : Option (W × Hot) → Option Hot
  | some (x, H) => (match insW H o with
    | some (m, c, fs) => if cs.contains c = true ∧ fs.length < 1000 then some (H.set m (.live (.ins c (putFW f x fs)))) else none
    | none => none)
  | none => none
def ofH {α : Type} (a : α) : Option Hot → Rs α
  | some H => .ok a H
  | none => .stk
def gflW (cs : List Str) (f : Str) (w : W) (env : WEnv) : W → Hot → Rs WEnv := fun o H => ofH env (fputW cs f o (fvW w H))
def candX (l : List CandX) (c : Str) : Option CandX := match l with
  | [] => none
  | x :: r => if x.c = c then some x else candX r c
def kMkW (n : Nat) : W → Hot → Rs W
  | .v .non, H => .ok (.r n) H
  | _, _ => .stk
def mkRunW (F0 : List W → Hot → Rs W) (c : Str) (ws : List W) (H : Hot) : Rs W := (F0 (.r H.length :: ws) (H ++ [.live (.ins c [])])).bind (kMkW H.length)
def runW (nN np : Nat) (b : PS0) (ws : List W) (H : Hot) : Rs W := if ws.length = np then endW H.length (b (ws.map some ++ List.replicate (nN - ws.length) none) H) else .stk
/-! methods -/
def lstH (H : Hot) (m : Nat) : Option (List V0) := match H[m]? with
  | some (.live (.lst vs)) => some vs
  | _ => none
def appW (m : Nat) : Option (V0 × Hot) → Rs W
  | some (x, H) => (match lstH H m with
    | some vs => if vs.length < sizeLine then .ok (.v .non) (H.set m (.live (.lst (vs ++ [x])))) else .stk
    | none => .stk)
  | none => .stk
def extW (m : Nat) (H : Hot) : Option V0 → Rs W
  | some (.lst ys) => (match lstH H m with
    | some vs => if vs.length + ys.length ≤ sizeLine then .ok (.v .non) (H.set m (.live (.lst (vs ++ ys)))) else .stk
    | none => .stk)
  | _ => .stk
def popW (m : Nat) (H : Hot) : List W → Rs W
  | [] => (match lstH H m with
    | some vs => (match vs[vs.length - 1]? with
      | some y => .ok (.v y) (H.set m (.live (.lst vs.dropLast)))
      | none => .stk)
    | none => .stk)
  | [.v (.int i)] => (match lstH H m with
    | some vs => (match (if -(2 ^ 63) ≤ i ∧ i < 2 ^ 63 then seqIndex? i vs.length else none) with
      | some k => (match vs[k]? with
        | some y => .ok (.v y) (H.set m (.live (.lst (vs.eraseIdx k))))
        | none => .stk)
      | none => .stk)
    | none => .stk)
  | _ => .stk
/-- a list that is written goes into another one as a row -/
def appH (m : Nat) (H : Hot) : W → Rs W
  | .r j => if j = m then .stk else (match lstH H j with
    | some vs => (match H[m]? with
      | some (.live (.lst [])) => .ok (.v .non) ((H.set j .gone).set m (.live (.ll [vs])))
      | some (.live (.ll rows)) => if rows.length < sizeLine then .ok (.v .non) ((H.set j .gone).set m (.live (.ll (rows ++ [vs])))) else .stk
      | _ => .stk)
    | none => .stk)
  | _ => .stk
def mW (o : M1) (m : Nat) (ws : List W) (H : Hot) : Rs W := match o, ws with
  | .append, [w] => appW m (fzW w H)
  | .extend, [w] => extW m H (bvW H w)
  | .pop, ws => popW m H ws
  | .appendH, [w] => appH m H w
  | _, _ => .stk
/-- a row is written -/
def setRow (H : Hot) (m i : Nat) (row : List V0) : Hot := match H[m]? with
  | some (.live (.ll rows)) => H.set m (.live (.ll (rows.set i row)))
  | _ => H
def appQ (m i : Nat) : Option (V0 × Hot) → Rs W
  | some (x, H) => (match rowV H m i with
    | some vs => if vs.length < sizeLine then .ok (.v .non) (setRow H m i (vs ++ [x])) else .stk
    | none => .stk)
  | none => .stk
def qW (o : M1) (m i : Nat) (ws : List W) (H : Hot) : Rs W := match o, ws with
  | .append, [w] => appQ m i (fzW w H)
  | _, _ => .stk
/-! targets -/
def kNm (i : Nat) (w : W) (env : WEnv) : WEnv := env.set i (some w)
def compW : W → Option (List W)
  | .v (.tup xs) => some (xs.map .v)
  | .t ws => some ws
  | _ => none
def setAll : List Nat → List W → WEnv → Option WEnv
  | [], [], env => some env
  | i :: is, w :: ws, env => setAll is ws (env.set i (some w))
  | _, _, _ => none
def ofEnv0 : Option WEnv → Hot → Rs WEnv
  | some e, H => .ok e H
  | none, _ => .stk
def tqW (t : TQ) (w : W) (env : WEnv) (H : Hot) : Rs WEnv := match t with
  | .nm i => .ok (env.set i (some w)) H
  | .fl cs f i => (ofW env[i]? H).bind (gflW cs f w env)
  | .tp is => ofEnv0 ((compW w).bind fun ws => setAll is ws env) H
def tqsK (go : WEnv → Hot → Rs WEnv) : WEnv → Hot → Rs WEnv := fun env H => go env H
def tqsW : List TQ → List W → WEnv → Hot → Rs WEnv
  | [], [], env, H => .ok env H
  | t :: ts, w :: ws, env, H => (tqW t w env H).bind (tqsK (tqsW ts ws))
  | _, _, _, _ => .stk
def tqsF (ts : List TQ) (env : WEnv) (H : Hot) : Option (List W) → Rs WEnv
  | some ws => tqsW ts ws env H
  | none => .stk
def ofEnv : Option WEnv → Hot → Rs WEnv
  | some e, H => .ok e H
  | none, _ => .stk
def stoRes (m : Nat) (env : WEnv) (H : Hot) : Option HT → Rs WEnv
  | some h => .ok env (H.set m (.live h))
  | none => .stk
def setI (vs : List V0) (x : V0) : V0 → Option HT
  | .int i => (match ixN vs.length i with
    | some j => some (.lst (vs.set j x))
    | none => none)
  | _ => none
def setQ (vs : List V0) (x : V0) : V0 → Option (List V0)
  | .int i => (match ixN vs.length i with
    | some j => some (vs.set j x)
    | none => none)
  | _ => none
def stoQ (m j : Nat) (env : WEnv) (H : Hot) : Option (List V0) → Rs WEnv
  | some row => .ok env (setRow H m j row)
  | none => .stk
def stoW (o i : W) (env : WEnv) : Option (V0 × Hot) → Rs WEnv
  | some (x, H) => (match dctAt H o with
    | some (m, h) => stoRes m env H ((dvW H i).bind fun k => dstoreV h k x)
    | none => (match o with
      | .r m => stoRes m env H ((lstH H m).bind fun vs => (dvW H i).bind (setI vs x))
      | .q m j => stoQ m j env H ((rowV H m j).bind fun vs => (dvW H i).bind (setQ vs x))
      | _ => .stk))
  | none => .stk
/-! what is gone through -/
def itemsF : Option (V0 × Hot) → Rs (List V0)
  | some (x, H) => (match seqV x with
    | some xs => .ok xs H
    | none => .stk)
  | none => .stk
def upToV (lo : Int) : Nat → List V0
  | 0 => []
  | n + 1 => .int lo :: upToV (lo + 1) n
def dnToV (hi : Int) : Nat → List V0
  | 0 => []
  | n + 1 => .int hi :: dnToV (hi - 1) n
def rangeW (H : Hot) : List W → Rs (List V0)
  | [.v (.int j)] => if small62 j = true then .ok (upToV 0 j.toNat) H else .stk
  | [.v (.int i), .v (.int j)] => if small62 i = true ∧ small62 j = true then .ok (upToV i (j - i).toNat) H else .stk
  | [.v (.int i), .v (.int j), .v (.int c)] => if c = -1 ∧ small62 i = true ∧ small62 j = true then .ok (dnToV i (i - j).toNat) H else .stk
  | _ => .stk
def enV (i : Nat) : List V0 → List V0
  | [] => []
  | x :: r => .tup [.int (i : Nat), x] :: enV (i + 1) r
def enumF : Option (V0 × Hot) → Rs (List V0)
  | some (x, H) => (match seqV x with
    | some xs => .ok (enV 0 xs) H
    | none => .stk)
  | none => .stk
def enumW (H : Hot) : List W → Rs (List V0)
  | [w] => enumF (fzW w H)
  | _ => .stk
def zipV : List V0 → List V0 → List V0
  | x :: r, y :: s => .tup [x, y] :: zipV r s
  | _, _ => []
def zipF : Option (List V0 × Hot) → Rs (List V0)
  | some ([.lst xs, .lst ys], H) => .ok (zipV xs ys) H
  | _ => .stk
def zipW (H : Hot) : List W → Rs (List V0)
  | [a, b] => zipF (fzWs [a, b] H)
  | _ => .stk
/-! what is still to be done -/
def kBinW2 (o : B2) (kp : Bool) (a : W) : W → Hot → Rs W := fun b H => binW o kp a b H
def kBinW (o : B2) (kp : Bool) (fb : PE0) (env : WEnv) : W → Hot → Rs W := fun a H => (fb env H).bind (kBinW2 o kp a)
def negW : V0 → Option V0
  | .int i => some (.int (-i))
  | _ => none
def kNegW : W → Hot → Rs W := fun a H => ofV ((dvW H a).bind negW) H
def kTupW : List W → Hot → Rs W := fun ws H => .ok (mkT ws) H
def kTupSW : List W → Hot → Rs W := fun ws H => if ws.length ≤ sizeLine then .ok (mkT ws) H else .stk
def kLstW (kp : Bool) : List W → Hot → Rs W := fun ws H => lstW kp ws H
def kLstSW (kp : Bool) : List W → Hot → Rs W := fun ws H => if ws.length ≤ sizeLine then lstW kp ws H else .stk
def kCbW (o : B1) (kp : Bool) : List W → Hot → Rs W := fun ws H => cbW o kp ws H
def kIfW {α : Type} (a c : WEnv → Hot → Rs α) (env : WEnv) : Bool → Hot → Rs α := fun b H => if b = true then a env H else c env H
def kAndW2 (fb : PE0) (env : WEnv) (w : W) : Bool → Hot → Rs W := fun b H => if b = true then fb env H else .ok w H
def kAndW (fb : PE0) (env : WEnv) : W → Hot → Rs W := fun w H => (ofT (truW H w) H).bind (kAndW2 fb env w)
def kOrW2 (fb : PE0) (env : WEnv) (w : W) : Bool → Hot → Rs W := fun b H => if b = true then .ok w H else fb env H
def kOrW (fb : PE0) (env : WEnv) : W → Hot → Rs W := fun w H => (ofT (truW H w) H).bind (kOrW2 fb env w)
def kNotW2 : Bool → Hot → Rs W := fun b H => .ok (.v (.bl (!b))) H
def kNotW : W → Hot → Rs W := fun w H => (ofT (truW H w) H).bind kNotW2
def kTbW : W → Hot → Rs Bool
  | .v (.bl b), H => .ok b H
  | _, _ => .stk
def kChW3 (o' : B2) (b : W) : W → Hot → Rs W := fun c H => scW o' b c H
def kChW2 (o' : B2) (fc : PE0) (env : WEnv) (b : W) : Bool → Hot → Rs W := fun z H => if z = true then (fc env H).bind (kChW3 o' b) else .ok (.v (.bl false)) H
def kChW1 (o o' : B2) (fc : PE0) (env : WEnv) (a : W) : W → Hot → Rs W := fun b H => ((scW o a b H).bind kTbW).bind (kChW2 o' fc env b)
def kChW (o o' : B2) (fb fc : PE0) (env : WEnv) : W → Hot → Rs W := fun a H => (fb env H).bind (kChW1 o o' fc env a)
def kSlW3 (kp : Bool) (a : W) (lo : Option Int) : Option Int → Hot → Rs W := fun hi H => ofK kp ((bvW H a).bind fun x => slV x lo hi) H
def kSlW2 (kp : Bool) (a : W) (fh : PO0) (env : WEnv) : Option Int → Hot → Rs W := fun lo H => (fh env H).bind (kSlW3 kp a lo)
def kSlW (kp : Bool) (fl fh : PO0) (env : WEnv) : W → Hot → Rs W := fun a H => (fl env H).bind (kSlW2 kp a fh env)
def kRevW2 (kp : Bool) (a : W) : W → Hot → Rs W
  | .v (.int i), H => if i = -1 then ofK kp ((bvW H a).bind revV) H else .stk
  | _, _ => .stk
def kRevW (kp : Bool) (fk : PE0) (env : WEnv) : W → Hot → Rs W := fun a H => (fk env H).bind (kRevW2 kp a)
def wipeW (env : WEnv) : List Nat → WEnv
  | [] => env
  | v :: vs => (wipeW env vs).set v none
def kLcW4 (go : List V0 → Hot → Rs (List V0)) (acc : List V0) : Option (V0 × Hot) → Rs (List V0)
  | some (y, H) => if acc.length < sizeLine then go (acc ++ [y]) H else .stk
  | none => .stk
def kLcW3 (go : List V0 → Hot → Rs (List V0)) (acc : List V0) : W → Hot → Rs (List V0) := fun y H => kLcW4 go acc (fzW y H)
def kLcW2 (go : List V0 → Hot → Rs (List V0)) (fe : PE0) (acc : List V0) (env1 : WEnv) : Bool → Hot → Rs (List V0) := fun b H => if b = true then (fe env1 H).bind (kLcW3 go acc) else go acc H
def kLcW1 (go : List V0 → Hot → Rs (List V0)) (t : PT0) (fe : PE0) (acc : List V0) : WEnv → Hot → Rs (List V0) := fun env1 H => (t env1 H).bind (kLcW2 go fe acc env1)
def lcW (g : PG0) (t : PT0) (fe : PE0) (env0 : WEnv) : List V0 → List V0 → Hot → Rs (List V0)
  | [], acc, H => .ok acc H
  | x :: r, acc, H => (g (.v x) env0 H).bind (kLcW1 (lcW g t fe env0 r) t fe acc)
def kLc24 (go : List V0 → Hot → Rs (List V0)) : List V0 → Hot → Rs (List V0) := fun acc H => go acc H
def kLc23 (go : List V0 → Hot → Rs (List V0)) (vs1 : List Nat) (g1 : PG0) (t1 : PT0) (fe : PE0) (acc : List V0) (env1 : WEnv) : List V0 → Hot → Rs (List V0) := fun ys H => (lcW g1 t1 fe (wipeW env1 vs1) ys acc H).bind (kLc24 go)
def kLc22 (go : List V0 → Hot → Rs (List V0)) (fi1 : PI0) (vs1 : List Nat) (g1 : PG0) (t1 : PT0) (fe : PE0) (acc : List V0) (env1 : WEnv) : Bool → Hot → Rs (List V0) := fun b H => if b = true then (fi1 env1 H).bind (kLc23 go vs1 g1 t1 fe acc env1) else go acc H
def kLc21 (go : List V0 → Hot → Rs (List V0)) (t : PT0) (fi1 : PI0) (vs1 : List Nat) (g1 : PG0) (t1 : PT0) (fe : PE0) (acc : List V0) : WEnv → Hot → Rs (List V0) := fun env1 H => (t env1 H).bind (kLc22 go fi1 vs1 g1 t1 fe acc env1)
def lcW2 (g : PG0) (t : PT0) (fi1 : PI0) (vs1 : List Nat) (g1 : PG0) (t1 : PT0) (fe : PE0) (env0 : WEnv) : List V0 → List V0 → Hot → Rs (List V0)
  | [], acc, H => .ok acc H
  | x :: r, acc, H => (g (.v x) env0 H).bind (kLc21 (lcW2 g t fi1 vs1 g1 t1 fe env0 r) t fi1 vs1 g1 t1 fe acc)
def noxW {α : Type} : Rs α → Rs α
  | .exc _ _ => .stk
  | r => r
def kLcEnd (kp : Bool) : List V0 → Hot → Rs W := fun ys H => putK kp (.lst ys) H
def kLcW (kp : Bool) (vs : List Nat) (g : PG0) (t : PT0) (fe : PE0) (env : WEnv) : List V0 → Hot → Rs W := fun xs H => (noxW (lcW g t fe (wipeW env vs) xs [] H)).bind (kLcEnd kp)
def kLc2W (kp : Bool) (vs : List Nat) (g : PG0) (t : PT0) (fi1 : PI0) (vs1 : List Nat) (g1 : PG0) (t1 : PT0) (fe : PE0) (env : WEnv) : List V0 → Hot → Rs W := fun xs H => (noxW (lcW2 g t fi1 vs1 g1 t1 fe (wipeW env vs) xs [] H)).bind (kLcEnd kp)
def C0.ws (dfl : List C0) : List W := (C0.vs dfl).map .v
def kCallW2 (F : List W → Hot → Rs W) (kp : Bool) (src : List PV.Src) (dfl : List C0) (ws : List W) : List W → Hot → Rs W := fun zs H => callW F kp (arr ws zs (C0.ws dfl) src) H
def kCallW (F : List W → Hot → Rs W) (kp : Bool) (src : List PV.Src) (dfl : List C0) (fk : PA0) (env : WEnv) : List W → Hot → Rs W := fun ws H => (fk env H).bind (kCallW2 F kp src dfl ws)
def kMthW2 (C : WFns) (kp : Bool) (x : CandX) (o : W) (ws : List W) : List W → Hot → Rs W := fun zs H => callW (C x.g) kp (arr (o :: ws) zs (C0.ws x.dfl) x.src) H
def kMthW1 (C : WFns) (kp : Bool) (x : CandX) (fk : PA0) (env : WEnv) (o : W) : List W → Hot → Rs W := fun ws H => (fk env H).bind (kMthW2 C kp x o ws)
def ofC (C : WFns) (kp : Bool) (fa fk : PA0) (env : WEnv) (o : W) (H : Hot) : Option CandX → Rs W
  | some x => (fa env H).bind (kMthW1 C kp x fk env o)
  | none => .stk
def mthX (m : Str) (l : List CandX) : Option (Nat × Str × List (Str × W)) → Option CandX
  | some (_, c, fs) => (match lookF m fs with
    | none => candX l c
    | some _ => none)
  | none => none
def kMthW (C : WFns) (kp : Bool) (m : Str) (l : List CandX) (fa fk : PA0) (env : WEnv) : W → Hot → Rs W := fun o H => ofC C kp fa fk env o H (mthX m l (insW H o))
def kMkW0 (F : List W → Hot → Rs W) (kp : Bool) : List W → Hot → Rs W := fun ws H => callW F kp ws H
def kMW2 (o : M1) (m : Nat) : List W → Hot → Rs W := fun ws H => mW o m ws H
def kQW2 (o : M1) (m i : Nat) : List W → Hot → Rs W := fun ws H => qW o m i ws H
def kMW (o : M1) (fr : PA0) (env : WEnv) : W → Hot → Rs W
  | .r m, H => (match lstH H m with
    | some _ => (fr env H).bind (kMW2 o m)
    | none => (match H[m]? with
      | some (.live (.ll _)) => (fr env H).bind (kMW2 o m)
      | _ => .stk))
  | .q m i, H => (match rowV H m i with
    | some _ => (fr env H).bind (kQW2 o m i)
    | none => .stk)
  | _, _ => .stk
def kConsW2 (w : W) : List W → Hot → Rs (List W) := fun ws H => .ok (w :: ws) H
def kConsW (fr : PA0) (env : WEnv) : W → Hot → Rs (List W) := fun w H => (fr env H).bind (kConsW2 w)
def kStarW2 (xs : List V0) : List W → Hot → Rs (List W) := fun ws H => .ok (xs.map .v ++ ws) H
def kStarW (fr : PA0) (env : WEnv) : W → Hot → Rs (List W) := fun w H => match (bvW H w).bind seqV with
  | some xs => (fr env H).bind (kStarW2 xs)
  | none => .stk
def kValW : W → Hot → Rs Bool := fun w H => ofT (truW H w) H
def kTnotW : Bool → Hot → Rs Bool := fun b H => .ok (!b) H
def kTandW (u : PT0) (env : WEnv) : Bool → Hot → Rs Bool := fun b H => if b = true then u env H else .ok false H
def kTorW (u : PT0) (env : WEnv) : Bool → Hot → Rs Bool := fun b H => if b = true then .ok true H else u env H
def kOsW : W → Hot → Rs (Option Int)
  | .v (.int i), H => .ok (some i) H
  | _, _ => .stk
def kSeqIt : W → Hot → Rs (List V0) := fun w H => itemsF (fzW w H)
def kRgIt : List W → Hot → Rs (List V0) := fun ws H => rangeW H ws
def kEnIt : List W → Hot → Rs (List V0) := fun ws H => enumW H ws
def kZpIt : List W → Hot → Rs (List V0) := fun ws H => zipW H ws
def kSbW2 (w o : W) (env : WEnv) : W → Hot → Rs WEnv := fun i H => stoW o i env (fzW w H)
def kSbW (w : W) (fi : PE0) (env : WEnv) : W → Hot → Rs WEnv := fun o H => (fi env H).bind (kSbW2 w o env)
mutual
def EX.w (C : WFns) : EX → PE0
  | .var i => fun env H => ofW env[i]? H
  | .c x => fun _ H => .ok (.v x.v) H
  | .bin o kp a b => fun env H => (a.w C env H).bind (kBinW o kp (b.w C) env)
  | .neg a => fun env H => (a.w C env H).bind kNegW
  | .tup as => fun env H => (as.w C env H).bind kTupW
  | .tupS as => fun env H => (as.w C env H).bind kTupSW
  | .lst kp as => fun env H => (as.w C env H).bind (kLstW kp)
  | .lstS kp as => fun env H => (as.w C env H).bind (kLstSW kp)
  | .cb o kp as => fun env H => (as.w C env H).bind (kCbW o kp)
  | .ifx t a b => fun env H => (t.w C env H).bind (kIfW (a.w C) (b.w C) env)
  | .and a b => fun env H => (a.w C env H).bind (kAndW (b.w C) env)
  | .or a b => fun env H => (a.w C env H).bind (kOrW (b.w C) env)
  | .not a => fun env H => (a.w C env H).bind kNotW
  | .ch o o' a b c => fun env H => (a.w C env H).bind (kChW o o' (b.w C) (c.w C) env)
  | .sl kp a lo hi => fun env H => (a.w C env H).bind (kSlW kp (lo.w C) (hi.w C) env)
  | .rev kp a k => fun env H => (a.w C env H).bind (kRevW kp (k.w C) env)
  | .lc kp vs it g t e => fun env H => (it.w C env H).bind (kLcW kp vs (g.w C) (t.w C) (e.w C) env)
  | .call kp f src dfl as ks => fun env H => (as.w C env H).bind (kCallW (C f) kp src dfl (ks.w C) env)
  | .m o a as => fun env H => (a.w C env H).bind (kMW o (as.w C) env)
  | .dn => fun _ H => .ok (.r H.length) (H ++ [.live (.dk [])])
  | .fld cs f a => fun env H => (a.w C env H).bind (kFldW cs f)
  | .mth kp m l a as ks => fun env H => (a.w C env H).bind (kMthW C kp m l (as.w C) (ks.w C) env)
  | .mk kp f as => fun env H => (as.w C env H).bind (kMkW0 (C f) kp)
  | .lc2 kp vs it g t it1 vs1 g1 t1 e => fun env H => (it.w C env H).bind (kLc2W kp vs (g.w C) (t.w C) (it1.w C) vs1 (g1.w C) (t1.w C) (e.w C) env)
def AX.w (C : WFns) : AX → PA0
  | .nil => fun _ H => .ok [] H
  | .cons e r => fun env H => (e.w C env H).bind (kConsW (r.w C) env)
  | .star e r => fun env H => (e.w C env H).bind (kStarW (r.w C) env)
def TX.w (C : WFns) : TX → PT0
  | .val e => fun env H => (e.w C env H).bind kValW
  | .not t => fun env H => (t.w C env H).bind kTnotW
  | .and t u => fun env H => (t.w C env H).bind (kTandW (u.w C) env)
  | .or t u => fun env H => (t.w C env H).bind (kTorW (u.w C) env)
  | .tb e => fun env H => (e.w C env H).bind kTbW
  | .yes => fun _ H => .ok true H
def OX.w (C : WFns) : OX → PO0
  | .none => fun _ H => .ok none H
  | .some e => fun env H => (e.w C env H).bind kOsW
def IX.w (C : WFns) : IX → PI0
  | .seq e => fun env H => (e.w C env H).bind kSeqIt
  | .rg as => fun env H => (as.w C env H).bind kRgIt
  | .en as => fun env H => (as.w C env H).bind kEnIt
  | .zp as => fun env H => (as.w C env H).bind kZpIt
def GX.w (C : WFns) : GX → PG0
  | .nm i => fun w env H => .ok (kNm i w env) H
  | .tp is => fun w env H => ofEnv ((compW w).bind fun ws => setAll is ws env) H
  | .sb o i => fun w env H => (o.w C env H).bind (kSbW w (i.w C) env)
  | .fl cs f i => fun w env H => (ofW env[i]? H).bind (gflW cs f w env)
  | .tq ts => fun w env H => tqsF ts env H (compW w)
end
def kNxW : WEnv → Hot → Rs Fw0 := fun env H => .ok (.nx env) H
def kAsgW (g : PG0) (env : WEnv) : W → Hot → Rs Fw0 := fun w H => (g w env H).bind kNxW
def kSeqW (f : PS0) : Fw0 → Hot → Rs Fw0
  | .nx e, H => f e H
  | .rt w, H => .ok (.rt w) H
  | .bk e, H => .ok (.bk e) H
  | .ct e, H => .ok (.ct e) H
def kExprW (env : WEnv) : W → Hot → Rs Fw0 := fun _ H => .ok (.nx env) H
def kRetW : W → Hot → Rs Fw0 := fun w H => .ok (.rt w) H
def kParW (is : List Nat) (env : WEnv) : List W → Hot → Rs Fw0 := fun ws H => (ofEnv (setAll is ws env) H).bind kNxW
def augV (o : A2) : V0 → V0 → Option V0
  | .int i, .int j => (match o with
    | .add => some (.int (i + j))
    | .sub => some (.int (i - j))
    | .mul => if mulOk i j = true then some (.int (i * j)) else none)
  | _, _ => none
def kAugW3 (i : Nat) (env : WEnv) : W → Hot → Rs Fw0 := fun z H => .ok (.nx (env.set i (some z))) H
def kAugW2 (i : Nat) (pl : A2) (env : WEnv) (x : W) : W → Hot → Rs Fw0 := fun y H => (ofV (two (augV pl) (dvW H x) (dvW H y)) H).bind (kAugW3 i env)
def kAugW (i : Nat) (pl : A2) (fe : PE0) (env : WEnv) : W → Hot → Rs Fw0 := fun x H => (fe env H).bind (kAugW2 i pl env x)
/-! o[i] op= e, o.f op= e -/
def getLW (H : Hot) (o i : W) : Option V0 := match o with
  | .r m => (lstH H m).bind fun vs => (dvW H i).bind fun k => ixV (.lst vs) k
  | .q m j => (rowV H m j).bind fun vs => (dvW H i).bind fun k => ixV (.lst vs) k
  | _ => none
def stoL (o i : W) (z : V0) (env : WEnv) (H : Hot) : Rs WEnv := match o with
  | .r m => stoRes m env H ((lstH H m).bind fun vs => (dvW H i).bind (setI vs z))
  | .q m j => stoQ m j env H ((rowV H m j).bind fun vs => (dvW H i).bind (setQ vs z))
  | _ => .stk
def ofL (a i : W) (env : WEnv) (H : Hot) : Option V0 → Rs Fw0
  | some z => (stoL a i z env H).bind kNxW
  | none => .stk
def kSA3W (o : A2) (env : WEnv) (a i : W) (x : V0) : W → Hot → Rs Fw0 := fun y H => ofL a i env H ((dvW H y).bind (augV o x))
def kSA2W (o : A2) (fe : PE0) (env : WEnv) (a i : W) (H : Hot) : Option V0 → Rs Fw0
  | some x => (fe env H).bind (kSA3W o env a i x)
  | none => .stk
def kSA1W (o : A2) (fe : PE0) (env : WEnv) (a : W) : W → Hot → Rs Fw0 := fun i H => kSA2W o fe env a i H (getLW H a i)
def kSA0W (o : A2) (fi fe : PE0) (env : WEnv) : W → Hot → Rs Fw0 := fun a H => (fi env H).bind (kSA1W o fe env a)
def clsX (H : Hot) (o : W) : Str := match insW H o with
  | some (_, c, _) => c
  | none => Str.empty
def kFA2W (c f : Str) (o : A2) (env : WEnv) (a : W) (x : V0) : W → Hot → Rs Fw0 := fun y H => ofH (.nx env) (((dvW H y).bind (augV o x)).bind fun z => fputW [c] f a (some (.v z, H)))
def kFA1W (cs : List Str) (f : Str) (o : A2) (fe : PE0) (env : WEnv) (a : W) (H0 : Hot) : W → Hot → Rs Fw0
  | .v x, H => (fe env H).bind (kFA2W (clsX H0 a) f o env a x)
  | _, _ => .stk
def kFA0W (cs : List Str) (f : Str) (o : A2) (fe : PE0) (env : WEnv) : W → Hot → Rs Fw0 := fun a H => (fldW cs f a H).bind (kFA1W cs f o fe env a H)
mutual
def refLt (L : Nat) : W → Bool
  | .v _ => true
  | .r m => decide (m < L)
  | .t ws => refsLt L ws
  | .q m _ => decide (m < L)
def refsLt (L : Nat) : List W → Bool
  | [] => true
  | w :: r => refLt L w && refsLt L r
end
/-- names of what is forgotten are forgotten -/
def gcE (L : Nat) : WEnv → WEnv
  | [] => []
  | none :: r => none :: gcE L r
  | some w :: r => (if refLt L w = true then some w else none) :: gcE L r
def gcS (gc : Bool) (L : Nat) (go : WEnv → Hot → Rs Fw0) (env : WEnv) (H : Hot) : Rs Fw0 := match gc with
  | true => if closedL L H = true then go (gcE L env) (H.take L) else go env H
  | false => go env H
def kForW2 (gc : Bool) (L : Nat) (go : WEnv → Hot → Rs Fw0) : Fw0 → Hot → Rs Fw0
  | .nx e, H => gcS gc L go e H
  | .ct e, H => gcS gc L go e H
  | .bk e, H => .ok (.nx e) H
  | .rt w, H => .ok (.rt w) H
def kForW1 (gc : Bool) (L : Nat) (b : PS0) (go : WEnv → Hot → Rs Fw0) : WEnv → Hot → Rs Fw0 := fun env H => (b env H).bind (kForW2 gc L go)
def forW (gc : Bool) (g : PG0) (b : PS0) : List V0 → WEnv → Hot → Rs Fw0
  | [], env, H => .ok (.nx env) H
  | x :: r, env, H => (g (.v x) env H).bind (kForW1 gc H.length b (forW gc g b r))
def kFor0 (gc : Bool) (g : PG0) (b : PS0) (env : WEnv) : List V0 → Hot → Rs Fw0 := fun xs H => forW gc g b xs env H
def kWhW (gc : Bool) (L : Nat) (b : PS0) (go : WEnv → Hot → Rs Fw0) (env : WEnv) : Bool → Hot → Rs Fw0 := fun c H => if c = true then (b env H).bind (kForW2 gc L go) else .ok (.nx env) H
def whW (gc : Bool) (t : PT0) (b : PS0) : Nat → WEnv → Hot → Rs Fw0
  | 0, _, _ => .stk
  | k + 1, env, H => (t env H).bind (kWhW gc H.length b (whW gc t b k) env)
def SX.w (C : WFns) : SX → PS0
  | .nil => fun env H => .ok (.nx env) H
  | .seq a b => fun env H => (a.w C env H).bind (kSeqW (b.w C))
  | .brk => fun env H => .ok (.bk env) H
  | .cnt => fun env H => .ok (.ct env) H
  | .expr e => fun env H => (e.w C env H).bind (kExprW env)
  | .ret e => fun env H => (e.w C env H).bind kRetW
  | .retN => fun _ H => .ok (.rt (.v .non)) H
  | .if_ t a b => fun env H => (t.w C env H).bind (kIfW (a.w C) (b.w C) env)
  | .asg e g => fun env H => (e.w C env H).bind (kAsgW (g.w C) env)
  | .par i j as => fun env H => (as.w C env H).bind (kParW [i, j] env)
  | .par3 i j l as => fun env H => (as.w C env H).bind (kParW [i, j, l] env)
  | .aug i pl e => fun env H => (ofW env[i]? H).bind (kAugW i pl (e.w C) env)
  | .saug o a i e => fun env H => (a.w C env H).bind (kSA0W o (i.w C) (e.w C) env)
  | .faug cs f o a e => fun env H => (a.w C env H).bind (kFA0W cs f o (e.w C) env)
  | .for_ gc it g b => fun env H => (it.w C env H).bind (kFor0 gc (g.w C) (b.w C) env)
  | .while_ gc t b => fun env H => whW gc (t.w C) (b.w C) wTurns env H
  | .stk => fun _ _ => .stk
end PV

set_option Elab.async false
set_option linter.all false
set_option maxRecDepth 100000
set_option maxHeartbeats 3999000
namespace PV
open L2 PyProof.Rows PySem PySem.Spec

theorem Sm.pre {α β : Type} {R : Wo → α → β → Prop} {w w1 : Wo} {o : Out α} {p : Rs β} (u : Up w w1) (h : Sm R w1 o p) : Sm R w o p := by
  cases p with
  | ok b H' => obtain ⟨a, w', e, e2, g, u2, r⟩ := h; exact ⟨a, w', e, e2, g, u.trans u2, r⟩
  | exc y H' => obtain ⟨a, w', e, e2, g, u2, r⟩ := h; exact ⟨a, w', e, e2, g, u.trans u2, r⟩
  | stk => exact trivial
mutual
theorem c0_cv (L : Nat → Prop) (S : Sto) : ∀ c : C0, Cv L S c.d c.v
  | .non => by unfold C0.d C0.v; exact .non
  | .bl b => by unfold C0.d C0.v; exact .bl b
  | .int b => by unfold C0.d C0.v; exact .int b
  | .str b => by unfold C0.d C0.v; exact .str b
  | .ty b => by unfold C0.d C0.v; exact .ty b
  | .tup cs => by unfold C0.d C0.v; exact .tup (c0_cvs L S cs)
theorem c0_cvs (L : Nat → Prop) (S : Sto) : ∀ c : List C0, Cvs L S (C0.ds c) (C0.vs c)
  | [] => by unfold C0.ds C0.vs; exact .nil
  | c :: r => by unfold C0.ds C0.vs; exact .cons (c0_cv L S c) (c0_cvs L S r)
end
section
variable {w : Wo}
theorem cvs_wrs : ∀ {ds : List D} {xs : List V0}, Cvs w.Live w.S ds xs → Wrs w ds (xs.map .v)
  | _, _, .nil => .nil
  | _, _, .cons h r => .cons (.v h) (cvs_wrs r)
theorem allV_cvs : ∀ {ds : List D} {ws : List W} {xs : List V0}, Wrs w ds ws → allV ws = some xs → Cvs w.Live w.S ds xs
  | _, [], _, .nil, e => by unfold allV at e; cases e; exact .nil
  | _, .v x :: r, _, .cons h t, e => by
    unfold allV at e
    obtain ⟨ys, e1, rfl⟩ := Option.map_eq_some_iff.mp e
    cases h with
    | v h => exact .cons h (allV_cvs t e1)
  | _, .r m :: r, _, .cons h t, e => by unfold allV at e; cases e
  | _, .t m :: r, _, .cons h t, e => by unfold allV at e; cases e
theorem mkT_ok {ds : List D} {ws : List W} (h : Wrs w ds ws) : Wr w (.tup ds) (mkT ws) := by
  unfold mkT
  split
  · exact .v (.tup (allV_cvs h ‹_›))
  · exact .t h
theorem sm_ofV (g : Gd w) {p : PR} {x : Option V0} (h : ∀ v, x = some v → ∃ r, p = some (r, w.S) ∧ Cv w.Live w.S r v) : Sm Wr w (lift p) (ofV x w.H) := by
  cases x with
  | none => exact trivial
  | some v =>
    obtain ⟨r, rfl, c⟩ := h v rfl
    exact .ok g (.v c)
theorem sm_put (g : Gd w) {kp : Bool} {ds : List D} {vs : List V0} (c : Cvs w.Live w.S ds vs) : Sm Wr w (.ok (.loc w.S.length) (w.S ++ [.lst ds])) (putK kp (.lst vs) w.H) := by
  cases kp with
  | true => exact .to (g.newL c) (.new g) (new_r g) rfl rfl
  | false =>
    refine .to (g.app [.lst ds]) (.app g _) (.v (.loc (fun z => ?_) (by show (w.S ++ [SO.lst ds])[w.S.length]? = _; simp) (c.up (g.app_ext _)))) rfl rfl
    exact Nat.lt_irrefl _ (g.lt z)
theorem putK_nl {kp : Bool} {v : V0} {H : Hot} (h : ∀ vs, v ≠ .lst vs) : putK kp v H = .ok (.v v) H := by
  unfold putK
  split
  · exact absurd rfl (h _)
  · rfl
theorem sm_mk (g : Gd w) {kp : Bool} {p : PR} {v : V0} (h : Mk w.Live w.S p v) : Sm Wr w (lift p) (putK kp v w.H) := by
  cases v with
  | lst vs => obtain ⟨ds, rfl, c⟩ := h; exact sm_put g c
  | _ => obtain ⟨d, rfl, c⟩ := h; cases kp <;> exact .ok g (.v c)
theorem sm_ofK (g : Gd w) {kp : Bool} {p : PR} {x : Option V0} (h : ∀ v, x = some v → Mk w.Live w.S p v) : Sm Wr w (lift p) (ofK kp x w.H) := by
  cases x with
  | none => exact trivial
  | some v => exact sm_mk g (h v rfl)
theorem two_some {p : V0 → V0 → Option V0} {a b : Option V0} {v : V0} (h : two p a b = some v) : ∃ x y, a = some x ∧ b = some y ∧ p x y = some v := by
  unfold two at h
  split at h
  · exact ⟨_, _, rfl, rfl, h⟩
  · cases h
theorem sm_sc (g : Gd w) {o : B2} {d e : D} {a b : W} (h1 : Wr w d a) (h2 : Wr w e b) : Sm Wr w (lift (o.d d e w.S)) (scW o a b w.H) := by
  refine sm_ofV g fun v hv => ?_
  obtain ⟨x, y, e1, e2, e3⟩ := two_some hv
  obtain ⟨r, q, c⟩ := s_ok (dvW_ok g h1 e1) (dvW_ok g h2 e2) e3
  exact ⟨r, q, c _ _⟩

/-! ### dicts -/
theorem kv_find {κ : Type} [DecidableEq κ] {L : Nat → Prop} {S : Sto} {k : κ} : ∀ {ds : List (κ × D)} {vs : List (κ × V0)}, KvR L S ds vs → (dval ds k = none ∧ dvalV vs k = none) ∨ ∃ d v, dval ds k = some d ∧ dvalV vs k = some v ∧ Cv L S d v
  | _, _, .nil => .inl ⟨rfl, rfl⟩
  | _, _, .cons (a := p) (b := q) h t => by
    have ih := kv_find (k := k) t
    unfold dval dvalV at ih ⊢
    rw [List.find?_cons, List.find?_cons]
    by_cases e : p.1 = k
    · rw [← h.1, decide_eq_true e]
      exact .inr ⟨p.2, q.2, rfl, rfl, h.2⟩
    · rw [← h.1, decide_eq_false e]
      exact ih
theorem kv_map {κ : Type} [DecidableEq κ] {L : Nat → Prop} {S : Sto} {k : κ} {d : D} {v : V0} (c : Cv L S d v) : ∀ {ds : List (κ × D)} {vs : List (κ × V0)}, KvR L S ds vs → KvR L S (ds.map fun p => if p.1 = k then (p.1, d) else p) (vs.map fun p => if p.1 = k then (p.1, v) else p)
  | _, _, .nil => .nil
  | _, _, .cons (a := p) (b := q) h t => by
    refine .cons ?_ (kv_map c t)
    dsimp only
    rw [← h.1]
    split
    · exact ⟨rfl, c⟩
    · exact h
theorem kv_snoc {κ : Type} {L : Nat → Prop} {S : Sto} {k : κ} {d : D} {v : V0} (c : Cv L S d v) : ∀ {ds : List (κ × D)} {vs : List (κ × V0)}, KvR L S ds vs → KvR L S (ds ++ [(k, d)]) (vs ++ [(k, v)])
  | _, _, .nil => .cons ⟨rfl, c⟩ .nil
  | _, _, .cons h t => .cons h (kv_snoc c t)
theorem kv_put {κ : Type} [DecidableEq κ] {L : Nat → Prop} {S : Sto} {k : κ} {d : D} {v : V0} (c : Cv L S d v) {ds : List (κ × D)} {vs : List (κ × V0)} (h : KvR L S ds vs) : KvR L S (dput ds k d) (dputV vs k v) := by
  unfold dput dputV
  rcases kv_find (k := k) h with ⟨a, b⟩ | ⟨d', v', a, b, _⟩
  · rw [a, b]
    exact kv_snoc c h
  · rw [a, b]
    exact kv_map c h
theorem kv_len {κ : Type} {L : Nat → Prop} {S : Sto} : ∀ {ds : List (κ × D)} {vs : List (κ × V0)}, KvR L S ds vs → ds.length = vs.length
  | _, _, .nil => rfl
  | _, _, .cons _ t => by rw [List.length_cons, List.length_cons, kv_len t]
theorem tkT_cv {S : Sto} {d : D} {x : V0} {k : TK} (h : Dv S d x) (e : tkTV x = some k) : tkT d = some k := by
  unfold tkTV at e
  split at e
  · split at e
    · rename_i k' e1
      cases h with
      | tup c =>
      have := tk_ok (.tup c) e1
      unfold tkT
      simp only [this]
      exact e
    · cases e
  · cases e
theorem keyS_cv {S : Sto} {d : D} {x : V0} {k : Key} (h : Dv S d x) (e : keySV x = some k) : keyS d = some k := by
  cases h <;> first | exact e | (cases e; done)
theorem keyS_no {S : Sto} {d : D} {x : V0} (h : Dv S d x) (e : keySV x = none) : keyS d = none := by
  cases h <;> first | rfl | (cases e; done)
theorem dctAt_some {H : Hot} {b : W} {m : Nat} {h : HT} (e : dctAt H b = some (m, h)) : b = .r m ∧ H[m]? = some (.live h) ∧ ∀ vs, h ≠ .lst vs := by
  unfold dctAt at e
  split at e
  · split at e
    · rename_i q; cases e; exact ⟨rfl, q, fun _ z => nomatch z⟩
    · rename_i q; cases e; exact ⟨rfl, q, fun _ z => nomatch z⟩
    · cases e
  · cases e
theorem set_same {α : Type} {l : List α} {m : Nat} {a : α} (h : l[m]? = some a) : l.set m a = l := by
  obtain ⟨h1, h2⟩ := List.getElem?_eq_some_iff.mp h
  rw [← h2]
  simp
/-- a key looked up in a dict that is written -/
theorem lookW_ok (g : Gd w) {m : Nat} {h h' : HT} {d e : D} {x : V0} {r : Option V0} (hm : w.H[m]? = some (.live h)) (hd : w.rho[m]? = some d) (he : Dv w.S e x) (hl : dlookV h x = some (r, h')) :
    ∃ n r' w', d = .loc n ∧ isDc w.S d = some n ∧ dlook w.S n e = some (r', w'.S) ∧ w'.H = w.H.set m (.live h') ∧ Gd w' ∧ Up w w' ∧ ((r = none ∧ r' = none) ∨ ∃ v z, r = some v ∧ r' = some z ∧ Cv w'.Live w'.S z v) := by
  obtain ⟨d', fp, q1, q2, q3⟩ := g.ob m _ hm
  rw [hd] at q1
  cases q1
  cases h with
  | lst vs => cases hl
  | ins c fs => cases hl
  | ll rows => cases hl
  | dd kvs =>
    obtain ⟨n, ds, rfl, rfl, e1, kr⟩ := q3
    simp only [dlookV] at hl
    split at hl
    · rename_i k ek
      cases hl
      refine ⟨n, dval ds k, w, rfl, by simp [isDc, e1], by simp [dlook, e1, tkT_cv he ek], (set_same hm).symm, g, .refl, ?_⟩
      rcases kv_find (k := k) kr with ⟨a, b⟩ | ⟨d', v', a, b, c⟩
      · exact .inl ⟨b, a⟩
      · exact .inr ⟨v', d', b, a, c⟩
    · cases hl
  | dk kvs =>
    obtain ⟨n, ds, rfl, rfl, e1, kr⟩ := q3
    simp only [dlookV] at hl
    split at hl
    · rename_i k ek
      cases hl
      refine ⟨n, dval ds k, w, rfl, by simp [isDc, e1], by simp [dlook, e1, keyS_cv he ek], (set_same hm).symm, g, .refl, ?_⟩
      rcases kv_find (k := k) kr with ⟨a, b⟩ | ⟨d', v', a, b, c⟩
      · exact .inl ⟨b, a⟩
      · exact .inr ⟨v', d', b, a, c⟩
    · rename_i ek
      split at hl
      · rename_i k ek2
        cases hl
        cases kr
        have z : w.Live n := .inr ⟨m, [n], q2, List.mem_singleton.mpr rfl⟩
        refine ⟨n, none, w.put m n (.dd []) (.dd []), rfl, by simp [isDc, e1], ?_, put_H, g.put hd q2 ⟨n, [], rfl, rfl, List.getElem?_set_self (g.lt z), .nil⟩, Up.put g hm (fun _ z => nomatch z) hd q2, .inl ⟨rfl, rfl⟩⟩
        simp [dlook, e1, keyS_no he ek, tkT_cv he ek2]
        rfl
      · cases hl
theorem not_dc (g : Gd w) {b : W} {e : D} {y : V0} (h : Wr w e b) (hb : dvW w.H b = some y) (hy : seqV y = none ∨ ∃ vs, seqV y = some vs) : isDc w.S e = none := by
  have := dvW_ok g h hb
  cases this with
  | loc _ q _ => simp [isDc, q]
  | _ => rfl
theorem sm_in (g : Gd w) {ng : Bool} {d e : D} {a b : W} (h1 : Wr w d a) (h2 : Wr w e b) :
    Sm Wr w (lift (match ng with | true => notInDD d e w.S | false => inDD d e w.S)) (inW ng a b w.H) := by
  unfold inW
  cases em : dctAt w.H b with
  | some mh =>
    obtain ⟨m, h⟩ := mh
    dsimp only
    obtain ⟨rfl, hm, _⟩ := dctAt_some em
    cases h2 with
    | r hd =>
    cases hx : (dvW w.H a).bind (dlookV h) with
    | none => exact trivial
    | some p =>
      obtain ⟨x, hx1, hx2⟩ := Option.bind_eq_some_iff.mp hx
      obtain ⟨n, r', w', rfl, q1, q2, q3, g', u', q4⟩ := lookW_ok g hm hd (dvW_ok g h1 hx1) hx2
      have key : r'.isSome = p.1.isSome := by
        rcases q4 with ⟨a, b⟩ | ⟨v, z, a, b, _⟩ <;> rw [a, b] <;> rfl
      have hres : Sm Wr w (.ok (.bl (r'.isSome != ng)) w'.S) (inRes ng m w.H (some p)) := by
        rw [key]
        exact Sm.to g' u' (.v (.bl _)) rfl q3.symm
      cases ng with
      | true =>
        have e2 : lift (notInDD d (.loc n) w.S) = .ok (.bl (r'.isSome != true)) w'.S := by
          unfold notInDD
          rw [q1]
          simp only [q2, Option.map_some]
          cases r' <;> rfl
        rw [← e2] at hres
        exact hres
      | false =>
        have e2 : lift (inDD d (.loc n) w.S) = .ok (.bl (r'.isSome != false)) w'.S := by
          unfold inDD
          rw [q1]
          simp only [q2, Option.map_some]
          cases r' <;> rfl
        rw [← e2] at hres
        exact hres
  | none =>
    dsimp only
    refine sm_ofV g fun v hv => ?_
    obtain ⟨x, y, e1, e2, e3⟩ := two_some hv
    obtain ⟨z, e4, rfl⟩ := Option.map_eq_some_iff.mp e3
    have hi := inV_ok (dvW_ok g h1 e1) (dvW_ok g h2 e2) e4
    have hn : isDc w.S e = none := by
      have := dvW_ok g h2 e2
      cases this with
      | loc _ q _ => simp [isDc, q]
      | _ => rfl
    cases ng with
    | true => exact ⟨.bl (!z), by simp [notInDD, hn, notInD, hi], by cases z <;> exact .bl _⟩
    | false => exact ⟨.bl z, by simp [inDD, hn, inD, hi], by cases z <;> exact .bl _⟩
theorem atI_wr {ds : List D} {vs : List W} {i : Int} {v : W} (c : Wrs w ds vs) (h : atI vs i = some v) : ∃ d, atI ds i = some d ∧ Wr w d v := by
  unfold atI at h ⊢
  rw [c.length]
  cases hx : ixN vs.length i with
  | none => rw [hx] at h; cases h
  | some j => rw [hx] at h; exact c.get h
theorem RwR.len {L : Nat → Prop} {S : Sto} : ∀ {ns : List Nat} {rows : List (List V0)}, RwR L S ns rows → ns.length = rows.length
  | _, _, .nil => rfl
  | _, _, .cons _ t => by rw [List.length_cons, List.length_cons, RwR.len t]
theorem ixN_lt {n j : Nat} {i : Int} (h : ixN n i = some j) : j < n := (ixN_seq h).2.1
theorem sm_ix (g : Gd w) {d e : D} {a b : W} (h1 : Wr w d a) (h2 : Wr w e b) : Sm Wr w (lift (ixDD d e w.S)) (ixW a b w.H) := by
  unfold ixW
  split
  · rename_i m h em
    obtain ⟨rfl, hm, _⟩ := dctAt_some em
    cases h1 with
    | r hd =>
    cases hx : (dvW w.H b).bind (dlookV h) with
    | none => exact trivial
    | some p =>
      obtain ⟨x, hx1, hx2⟩ := Option.bind_eq_some_iff.mp hx
      obtain ⟨n, r', w', rfl, q1, q2, q3, g', u', q4⟩ := lookW_ok g hm hd (dvW_ok g h2 hx1) hx2
      rcases q4 with ⟨a, b⟩ | ⟨v, z, a, b, c⟩
      · obtain ⟨p1, p2⟩ := p
        simp only at a
        subst a
        exact trivial
      · obtain ⟨p1, p2⟩ := p
        simp only at a q3
        subst a b
        have : lift (ixDD (.loc n) e w.S) = .ok z w'.S := by
          unfold ixDD
          rw [q1]
          simp only [q2]
          rfl
        rw [this]
        exact .to g' u' (.v c) rfl q3.symm
  · split
    · rename_i ws i em
      cases h1 with
      | t hs =>
      cases h2 with
      | v hc =>
      cases hc
      cases hx : atI ws i with
      | none => exact trivial
      | some x =>
        obtain ⟨d, e1, c⟩ := atI_wr hs hx
        show Sm Wr w (lift ((atI _ i).map _)) _
        rw [e1]
        exact .ok g c
    · rename_i m _
      cases h1 with
      | r hd =>
      unfold rowR
      split
      · rename_i rows he
        cases hx : rowI rows.length (dvW w.H b) with
        | none => exact trivial
        | some j =>
          obtain ⟨i, e1, e2⟩ : ∃ i, dvW w.H b = some (.int i) ∧ ixN rows.length i = some j := by
            unfold rowI at hx
            split at hx
            · exact ⟨_, ‹_›, hx⟩
            · cases hx
          obtain ⟨d0, fp, a1, a2, n, ns, rfl, rfl, nd, a3, a4⟩ := g.ob m _ he
          rw [hd] at a1
          cases a1
          have hl : ns.length = rows.length := a4.len
          have hj : j < rows.length := ixN_lt e2
          have q := dvW_ok g h2 e1
          cases q
          obtain ⟨k, hk⟩ : ∃ k, ns[j]? = some k := ⟨ns[j], List.getElem?_eq_getElem (by omega)⟩
          rw [← hl] at e2
          have : lift (ixDD (.loc n) (.int i) w.S) = .ok (.loc k) w.S := by
            unfold ixDD isDc
            simp only [a3]
            show lift (ixD (.loc n) (.int i) w.S) = _
            unfold ixD
            simp only [seqOf, lstAt, a3, Option.bind_some]
            unfold atI
            rw [List.length_map, e2]
            simp [hk]
          rw [this]
          refine .ok g (.q ?_)
          unfold Wo.rowAt
          rw [he]
          exact ⟨n, _, hd, a3, by rw [List.getElem?_map, hk]; rfl⟩
      · refine sm_ofV g fun v hv => ?_
        obtain ⟨x, y, e1, e2, e3⟩ := two_some hv
        exact ix_ok (val_r g hd e1) (dvW_ok g h2 e2) e3
    · refine sm_ofV g fun v hv => ?_
      obtain ⟨x, y, e1, e2, e3⟩ := two_some hv
      exact ix_ok (bvW_ok g h1 e1) (dvW_ok g h2 e2) e3
theorem sm_bin (g : Gd w) {o : B2} {kp : Bool} {d e : D} {a b : W} (h1 : Wr w d a) (h2 : Wr w e b) : Sm Wr w (lift (o.d d e w.S)) (binW o kp a b w.H) := by
  cases o with
  | add =>
    refine sm_ofK g fun v hv => ?_
    obtain ⟨x, y, e1, e2, e3⟩ := two_some hv
    exact add_ok (bvW_ok g h1 e1) (bvW_ok g h2 e2) e3
  | mul =>
    refine sm_ofK g fun v hv => ?_
    obtain ⟨x, y, e1, e2, e3⟩ := two_some hv
    exact mul_ok (bvW_ok g h1 e1) (bvW_ok g h2 e2) e3
  | in_ => exact sm_in (ng := false) g h1 h2
  | notIn => exact sm_in (ng := true) g h1 h2
  | ix => exact sm_ix g h1 h2
  | _ => exact sm_sc g h1 h2
end
end PV

set_option Elab.async false
set_option linter.all false
set_option maxRecDepth 100000
set_option maxHeartbeats 3999000
namespace PV
open L2 PyProof.Rows PySem PySem.Spec
section
variable {w : Wo}
theorem bvWs_ok (g : Gd w) : ∀ {ds : List D} {ws : List W} {xs : List V0}, Wrs w ds ws → bvWs w.H ws = some xs → Bvs w.Live w.S ds xs
  | _, [], _, .nil, e => by unfold bvWs at e; cases e; exact .nil
  | _, x :: r, _, .cons h t, e => by
    unfold bvWs at e
    split at e
    · rename_i v vs e1 e2
      cases e
      exact .cons (bvW_ok g h e1) (bvWs_ok g t e2)
    · cases e
theorem sm_cb (g : Gd w) {o : B1} {kp : Bool} {ds : List D} {ws : List W} (h : Wrs w ds ws) : Sm Wr w (lift (o.d ds w.S)) (cbW o kp ws w.H) := by
  unfold cbW
  split
  · refine sm_ofK g fun v hv => ?_
    obtain ⟨xs, e1, e2⟩ := Option.bind_eq_some_iff.mp hv
    exact b1m_ok (bvWs_ok g h e1) e2
  · refine sm_ofV g fun v hv => ?_
    obtain ⟨xs, e1, e2⟩ := Option.bind_eq_some_iff.mp hv
    obtain ⟨r, q, c⟩ := b1s_ok (dvWs_ok g h e1) e2
    exact ⟨r, q, c _ _⟩
theorem sm_lst (g : Gd w) {kp : Bool} {ds : List D} {ws : List W} (h : Wrs w ds ws) : Sm Wr w (.ok (.loc w.S.length) (w.S ++ [.lst ds])) (lstW kp ws w.H) := by
  unfold lstW
  cases e : fzWs ws w.H with
  | none => exact trivial
  | some p =>
    obtain ⟨xs, H'⟩ := p
    obtain ⟨w1, a, b, b2, g1, u, c⟩ := fzWs_ok g h e
    subst b
    have := sm_put (kp := kp) g1 c
    rw [a] at this
    exact this.pre u
theorem tru_ok (g : Gd w) {d : D} {x : W} {b : Bool} (h : Wr w d x) (e : truW w.H x = some b) : truD d w.S = some b := by
  obtain ⟨v, e1, e2⟩ := Option.bind_eq_some_iff.mp e
  have := dvW_ok g h e1
  cases this with
  | non => exact e2
  | bl _ => exact e2
  | int _ => exact e2
  | str _ => exact e2
  | tup c => rw [← e2]; simp only [truD, truV]; cases c <;> rfl
  | fz c => rw [← e2]; simp only [truD, truV]; cases c <;> rfl
  | loc _ q c => rw [← e2]; simp only [truD, truV, q]; cases c <;> rfl
  | ty _ => cases e2
  | gl _ => cases e2
/-- truth asked, then on -/
theorem sm_tru {α β : Type} {R : Wo → α → β → Prop} (g : Gd w) {d : D} {x : W} {k : Bool → Out α} {k' : Bool → Hot → Rs β} (h : Wr w d x) (hk : ∀ b, Sm R w (k b) (k' b w.H)) :
    Sm R w (match truD d w.S with | some b => k b | none => .stk) ((ofT (truW w.H x) w.H).bind k') := by
  cases e : truW w.H x with
  | none => exact trivial
  | some b => rw [tru_ok g h e]; exact hk b
theorem er_get {env : Env} {we : WEnv} (g : Gd w) (h : Er w env we) (i : Nat) : Sm Wr w (eVar i env w.S) (ofW we[i]? w.H) := by
  cases e : we[i]? with
  | none => exact trivial
  | some o =>
    cases o with
    | none => exact trivial
    | some x =>
      obtain ⟨d, e1, r⟩ := h.val i x e
      unfold eVar
      rw [e1]
      exact .ok g r

/-! ### calls -/
def FnS (F : List D → Sto → Out D) (F' : List W → Hot → Rs W) : Prop := ∀ w ds ws, Gd w → Wrs w ds ws → Sm Wr w (F ds w.S) (F' ws w.H)
/-! what is handed -/
theorem refs_lt (g : Gd w) {i j : Nat} (h : j ∈ refsAt w.H i) : j < w.rho.length := by
  unfold refsAt at h
  split at h
  · rename_i e he
    obtain ⟨d, fp, _, _, q⟩ := g.ob i e he
    cases e with
    | live t =>
      cases t with
      | ins c fs =>
        obtain ⟨n, ds, _, _, _, q⟩ := q
        have key : ∀ {ds : List (Str × D)} {fs : List (Str × W)}, FsR w.Live w.S w.rho ds fs → j ∈ refsF fs → j < w.rho.length := by
          intro ds fs q
          induction q with
          | nil => exact fun h => nomatch h
          | cons h t ih =>
            rename_i p q' _ _
            obtain ⟨x, y⟩ := q'
            intro hj
            cases y with
            | r k =>
              rcases List.mem_cons.mp hj with rfl | hj
              · exact (List.getElem?_eq_some_iff.mp h.2).1
              · exact ih hj
            | _ => exact ih hj
        exact key q h
      | _ => cases h
    | _ => cases h
  · cases h
theorem addN_rn : ∀ (l ids : List Nat), (∀ j ∈ l, j < w.rho.length) → Rn w ids (addN ids l)
  | [], ids, _ => .refl
  | j :: r, ids, h => by
    unfold addN
    refine Rn.trans ?_ (addN_rn r _ fun k hk => h k (List.mem_cons_of_mem _ hk))
    split
    · exact .refl
    · rename_i hc
      have hj : j ∉ ids := fun z => hc (List.contains_iff_mem.mpr z)
      refine ⟨fun k i q => ?_, fun q => ?_, fun q i hi => ?_⟩
      · rw [List.getElem?_append_left (List.getElem?_eq_some_iff.mp q).1]; exact q
      · exact List.nodup_append.mpr ⟨q, by simp, fun a ha b hb => by rw [List.mem_singleton.mp hb]; exact fun e => hj (e ▸ ha)⟩
      · rcases List.mem_append.mp hi with hi | hi
        · exact q i hi
        · rw [List.mem_singleton.mp hi]; exact h j List.mem_cons_self
theorem refsL_lt (g : Gd w) {j : Nat} : ∀ {ids : List Nat}, j ∈ refsL w.H ids → j < w.rho.length
  | [], h => nomatch h
  | i :: r, h => by
    unfold refsL at h
    rcases List.mem_append.mp h with h | h
    · exact refs_lt g h
    · exact refsL_lt g h
theorem clo_rn (g : Gd w) (ids : List Nat) : Rn w ids (clo w.H ids) := (addN_rn _ ids fun j hj => refsL_lt g hj).trans (addN_rn _ _ fun j hj => refsL_lt g hj)
theorem sm_call (g : Gd w) {F : List D → Sto → Out D} {F' : List W → Hot → Rs W} (hF : FnS F F') {kp : Bool} {ds : List D} {ws : List W} (h : Wrs w ds ws) : Sm Wr w (F ds w.S) (callW F' kp ws w.H) := by
  unfold callW handW
  split
  · rename_i hc
    obtain ⟨a, b⟩ := rens_ok g.l1 (O := w.oth (clo w.H (rens ws []).2)) (fun n z => z.1) (ids := []) h
    have rn := clo_rn g (rens ws []).2
    have b := b (fun i z => nomatch z) _ rn
    have hn := rn.nd (a.nd List.nodup_nil)
    have hr : ∀ i ∈ clo w.H (rens ws []).2, i < w.H.length := fun i z => by rw [← g.l1]; exact rn.rg (a.rg fun i z => nomatch z) i z
    have hcl := closed_ok hc
    generalize (rens ws []).1 = ws' at b
    generalize clo w.H (rens ws []).2 = ids at b hn hr hcl
    have g0 : Gd (w.sub (w.oth ids) ids) := g.sub hn hr hcl fun n z => z
    have q := hF _ ds ws' g0 b
    have e1 : (w.sub (w.oth ids) ids).S = w.S := rfl
    have e2 : (w.sub (w.oth ids) ids).H = subH w.H ids := rfl
    rw [e1, e2] at q
    show Sm Wr w (F ds w.S) (finW kp ids w.H (F' ws' (subH w.H ids)))
    revert q
    cases F' ws' (subH w.H ids) with
    | stk => exact fun _ => trivial
    | exc y H1 =>
      rintro ⟨x, w1, q1, rfl, g1, u1, q2⟩
      rw [q1]
      exact ⟨x, w.mrg ids w1, rfl, rfl, .mrg g g1 hn hr u1, .mrg g g1 hn hr u1, .mrg g g1 hn hr u1 q2⟩
    | ok x H1 =>
      rintro ⟨d, w1, q1, rfl, g1, u1, q2⟩
      rw [q1]
      have gm := Gd.mrg g g1 hn hr u1
      have um := Up.mrg g g1 hn hr u1
      have rm := bkW_ok g g1 hn hr u1 q2
      show Sm Wr w (.ok d w1.S) (if kp = true then .ok (bkW ids w.H.length x) (mrgH w.H ids w1.H) else finF w.H.length (fzW (bkW ids w.H.length x) (mrgH w.H ids w1.H)))
      split
      · exact ⟨d, w.mrg ids w1, rfl, rfl, gm, um, rm⟩
      · cases e : fzW (bkW ids w.H.length x) (mrgH w.H ids w1.H) with
        | none => exact trivial
        | some p =>
          obtain ⟨v, H2⟩ := p
          obtain ⟨w2, a1, a2, a3, g2, u2, c⟩ := fzW_ok gm rm e
          subst a2
          have hS : Out.ok d w1.S = Out.ok d w2.S := by rw [a1]; rfl
          show Sm Wr w (.ok d w1.S) (.ok (.v v) (cutH w.H.length w2.H))
          unfold cutH
          split
          · rename_i hcl
            exact ⟨d, w2.tak w.H.length, hS, rfl, g2.tak hcl, .tak g (um.trans u2), .v (c.up tak_ext)⟩
          · exact ⟨d, w2, hS, rfl, g2, um.trans u2, .v c⟩
  · exact trivial

/-! ### the end of a def -/
def Flr (w : Wo) : Fl → Fw0 → Prop
  | .nx e, .nx we => Er w e we
  | .rt d, .rt x => Wr w d x
  | .bk e, .bk we => Er w e we
  | .ct e, .ct we => Er w e we
  | _, _ => False
theorem range_get {L m : Nat} (h : m < L) : (List.range L)[m]? = some m := by simp [h]
/-- the end: what was handed stays, with what it names -/
theorem end_sub (g : Gd w) {w1 : Wo} (g1 : Gd w1) (u1 : Up w w1) {ids : List Nat} (hc : closedB w1.H ids = true) (hn : ids.Nodup) (hr : ∀ i ∈ ids, i < w1.H.length) (hp : ∀ m, m < w.H.length → ids[m]? = some m) :
    Gd (w1.sub w1.out ids) ∧ Up w (w1.sub w1.out ids) := by
  have ho : ∀ n, w1.out n → w1.oth ids n := fun n z => ⟨.inl z, fun i _ fp e hm => g1.dis0 i fp n e hm z⟩
  refine ⟨g1.sub hn hr (closed_ok hc) ho, ⟨u1.ext.trans (sub_ext' fun n z => .inl z), fun m d' e => ?_, u1.out, u1.fr, fun m i d h => sub_row (hp m (row_lt h)) (u1.row m i d h)⟩⟩
  have hm : m < w.rho.length := (List.getElem?_eq_some_iff.mp e).1
  exact subL_get (hp m (by rw [← g.l1]; exact hm)) (u1.rho m d' e)
theorem up_len {w1 : Wo} (u1 : Up w w1) : w.rho.length ≤ w1.rho.length := by
  rcases Nat.eq_zero_or_pos w.rho.length with h | h
  · omega
  · have hi : w.rho.length - 1 < w.rho.length := by omega
    have := (List.getElem?_eq_some_iff.mp (u1.rho _ _ (List.getElem?_eq_getElem hi))).1
    omega
theorem sm_end (g : Gd w) {o : Out Fl} {p : Rs Fw0} (h : Sm Flr w o p) : Sm Wr w (o.bind fun fl S1 => match fl with
    | .rt d => .ok d S1
    | .nx _ => .ok .non S1
    | _ => .stk) (endW w.H.length p) := by
  have rng : ∀ {w1 : Wo}, Gd w1 → Up w w1 → (∀ i ∈ List.range w.H.length, i < w1.rho.length) := fun {w1} g1 u1 i z => by
    have := List.mem_range.mp z
    have := up_len u1
    have := g.l1
    omega
  cases p with
  | stk => exact trivial
  | exc y H' =>
    obtain ⟨x, w1, rfl, rfl, g1, u1, q⟩ := h
    show Sm Wr w (.exc x w1.S) (if closedB w1.H (clo w1.H (List.range w.H.length)) = true then .exc y (subH w1.H (clo w1.H (List.range w.H.length))) else .stk)
    split
    · rename_i hc
      have rn := clo_rn g1 (List.range w.H.length)
      obtain ⟨g2, u2⟩ := end_sub g g1 u1 hc (rn.nd List.nodup_range) (fun i z => by rw [← g1.l1]; exact rn.rg (rng g1 u1) i z) fun m hm => rn.pre m m (range_get hm)
      exact ⟨x, w1.sub w1.out (clo w1.H (List.range w.H.length)), rfl, rfl, g2, u2, q.1, Paired.mapP q.2 fun p q ⟨a, b⟩ => ⟨a, b.up (sub_ext' fun n z => .inl z)⟩⟩
    · exact trivial
  | ok fw H' =>
    obtain ⟨fl, w1, rfl, rfl, g1, u1, q⟩ := h
    cases fw with
    | bk e => exact trivial
    | ct e => exact trivial
    | nx e =>
      cases fl with
      | nx env =>
        show Sm Wr w (.ok .non w1.S) (if closedB w1.H (clo w1.H (List.range w.H.length)) = true then .ok (.v .non) (subH w1.H (clo w1.H (List.range w.H.length))) else .stk)
        split
        · rename_i hc
          have rn := clo_rn g1 (List.range w.H.length)
          obtain ⟨g2, u2⟩ := end_sub g g1 u1 hc (rn.nd List.nodup_range) (fun i z => by rw [← g1.l1]; exact rn.rg (rng g1 u1) i z) fun m hm => rn.pre m m (range_get hm)
          exact ⟨.non, w1.sub w1.out (clo w1.H (List.range w.H.length)), rfl, rfl, g2, u2, .v .non⟩
        · exact trivial
      | _ => exact q.elim
    | rt x =>
      cases fl with
      | rt d =>
        show Sm Wr w (.ok d w1.S) (if closedB w1.H (clo w1.H (ren x (List.range w.H.length)).2) = true then .ok (ren x (List.range w.H.length)).1 (subH w1.H (clo w1.H (ren x (List.range w.H.length)).2)) else .stk)
        split
        · rename_i hc
          obtain ⟨a, b⟩ := ren_ok (w := w1) g1.l1 (O := w1.out) (fun n z => .inl z) (ids := List.range w.H.length) q
          have rn := clo_rn g1 (ren x (List.range w.H.length)).2
          have b := b (rng g1 u1) _ rn
          obtain ⟨g2, u2⟩ := end_sub g g1 u1 hc (rn.nd (a.nd List.nodup_range)) (fun i z => by rw [← g1.l1]; exact rn.rg (a.rg (rng g1 u1)) i z) fun m hm => rn.pre m m (a.pre m m (range_get hm))
          exact ⟨d, w1.sub w1.out (clo w1.H (ren x (List.range w.H.length)).2), rfl, rfl, g2, u2, b⟩
        · exact trivial
      | _ => exact q.elim
theorem er_start {ds : List D} {ws : List W} {k : Nat} (h : Wrs w ds ws) : Er w (ds.map some ++ List.replicate k none) (ws.map some ++ List.replicate k none) := by
  refine ⟨by simp [h.length], fun i x e => ?_⟩
  by_cases hi : i < ws.length
  · rw [List.getElem?_append_left (by simpa using hi), List.getElem?_map] at e
    obtain ⟨y, e1, e2⟩ := Option.map_eq_some_iff.mp e
    cases e2
    obtain ⟨d, e3, r⟩ := h.get e1
    refine ⟨d, ?_, r⟩
    rw [List.getElem?_append_left (by simpa [h.length] using hi), List.getElem?_map, e3]
    rfl
  · rw [List.getElem?_append_right (by simpa using hi)] at e
    rw [List.getElem?_replicate] at e
    split at e <;> cases e
theorem sm_run {nN np : Nat} {b : FS} {b' : PS0} (h : ∀ w env we, Gd w → Er w env we → Sm Flr w (b env w.S) (b' we w.H)) : FnS (runB nN np b) (runW nN np b') := by
  intro w ds ws g hs
  unfold runB runW
  rw [hs.length]
  split
  · exact sm_end g (h w _ _ g (er_start hs))
  · exact trivial

/-! ### methods -/
theorem lstH_some {H : Hot} {m : Nat} {vs : List V0} (h : lstH H m = some vs) : H[m]? = some (.live (.lst vs)) := by
  unfold lstH at h
  split at h
  · rename_i e; cases h; exact e
  · cases h
theorem hot_lst (g : Gd w) {m : Nat} {d : D} {vs : List V0} (hd : w.rho[m]? = some d) (h : lstH w.H m = some vs) : ∃ n ds, d = .loc n ∧ w.fps[m]? = some [n] ∧ lstAt w.S n = some ds ∧ Cvs w.Live w.S ds vs := by
  obtain ⟨d', fp, q1, q2, n, ds, rfl, rfl, e, c⟩ := g.ob m _ (lstH_some h)
  rw [hd] at q1
  cases q1
  exact ⟨n, ds, rfl, q2, by simp [lstAt, e], c⟩
theorem sm_putL (g : Gd w) {m n : Nat} {d : D} {x : V0} {ds : List D} {vs vs0 : List V0} (hm : w.H[m]? = some (.live (.lst vs0))) (hd : w.rho[m]? = some (.loc n)) (hf : w.fps[m]? = some [n]) (c : Cvs w.Live w.S ds vs) (cx : Cv w.Live w.S d x) :
    Sm Wr w (.ok d (w.S.set n (.lst ds))) (.ok (.v x) (w.H.set m (.live (.lst vs)))) := by
  exact Sm.to (g.putL hd hf c) (Up.put g hm (fun _ z => nomatch z) hd hf) (.v (cx.up (put_ext g hd hf))) rfl put_H.symm
theorem sm_app (g : Gd w) {m : Nat} {d e : D} {x : W} (hd : w.rho[m]? = some d) (h : Wr w e x) : Sm Wr w (lift (appendD d [e] w.S)) (appW m (fzW x w.H)) := by
  cases ef : fzW x w.H with
  | none => exact trivial
  | some p =>
    obtain ⟨v, H'⟩ := p
    obtain ⟨w1, a, b, b2, g1, u, c⟩ := fzW_ok g h ef
    subst b
    rw [← b2] at hd
    refine Sm.pre u ?_
    rw [← a]
    unfold appW
    dsimp only
    split
    · rename_i vs hl
      obtain ⟨n, ds, rfl, hf, e1, cs⟩ := hot_lst g1 hd hl
      split
      · rename_i hz
        have : lift (appendD (.loc n) [e] w1.S) = .ok .non (w1.S.set n (.lst (ds ++ [e]))) := by
          unfold appendD
          simp only [e1]
          rw [if_pos (by rw [cs.length]; exact hz)]
          rfl
        rw [this]
        exact sm_putL g1 (lstH_some hl) hd hf (cs.append (.cons c .nil)) .non
      · exact trivial
    · exact trivial
theorem sm_ext (g : Gd w) {m : Nat} {d e : D} {x : W} (hd : w.rho[m]? = some d) (h : Wr w e x) : Sm Wr w (lift (extendD d [e] w.S)) (extW m w.H (bvW w.H x)) := by
  cases ef : bvW w.H x with
  | none => exact trivial
  | some v =>
    have bv := bvW_ok g h ef
    unfold extW
    split
    · rename_i ys q
      cases q
      obtain ⟨k, es, rfl, e2, c2⟩ := bv_loc bv
      split
      · rename_i vs hl
        obtain ⟨n, ds, rfl, hf, e1, cs⟩ := hot_lst g hd hl
        split
        · rename_i hz
          have : lift (extendD (.loc n) [.loc k] w.S) = .ok .non (w.S.set n (.lst (ds ++ es))) := by
            unfold extendD
            simp only [e1, e2]
            rw [if_pos (by rw [cs.length, c2.length]; exact hz)]
            rfl
          rw [this]
          exact sm_putL g (lstH_some hl) hd hf (cs.append c2) .non
        · exact trivial
      · exact trivial
    · exact trivial
theorem sm_pop (g : Gd w) {m : Nat} {d : D} {ds : List D} {ws : List W} (hd : w.rho[m]? = some d) (h : Wrs w ds ws) : Sm Wr w (lift (popD d ds w.S)) (popW m w.H ws) := by
  unfold popW
  split
  · cases h
    split
    · rename_i vs hl
      obtain ⟨n, ds, rfl, hf, e1, cs⟩ := hot_lst g hd hl
      split
      · rename_i y hy
        obtain ⟨z, e2, c⟩ := cs.get hy
        have : lift (popD (.loc n) [] w.S) = .ok z (w.S.set n (.lst ds.dropLast)) := by
          unfold popD
          simp only [e1]
          rw [cs.length, e2]
          rfl
        rw [this]
        exact sm_putL g (lstH_some hl) hd hf cs.dropLast c
      · exact trivial
    · exact trivial
  · rename_i i
    cases h with
    | cons h1 h2 =>
    cases h2
    cases h1 with
    | v h1 =>
    cases h1
    split
    · rename_i vs hl
      obtain ⟨n, ds, rfl, hf, e1, cs⟩ := hot_lst g hd hl
      split
      · rename_i k hk
        split
        · rename_i y hy
          obtain ⟨z, e2, c⟩ := cs.get hy
          have : lift (popD (.loc n) [.int i] w.S) = .ok z (w.S.set n (.lst (ds.eraseIdx k))) := by
            unfold popD
            simp only [e1]
            rw [cs.length, hk]
            simp only [e2]
            rfl
          rw [this]
          exact sm_putL g (lstH_some hl) hd hf (cs.eraseIdx k) c
        · exact trivial
      · exact trivial
    · exact trivial
  · exact trivial
theorem RwR.append {L : Nat → Prop} {S : Sto} : ∀ {ns ms : List Nat} {rows rs : List (List V0)}, RwR L S ns rows → RwR L S ms rs → RwR L S (ns ++ ms) (rows ++ rs)
  | _, _, _, _, .nil, s => s
  | _, _, _, _, .cons r t, s => .cons r (RwR.append t s)
/-- a list that is written goes into another one -/
theorem sm_apph (g : Gd w) {m : Nat} {d e : D} {x : W} (hd : w.rho[m]? = some d) (h : Wr w e x) : Sm Wr w (lift (appendD d [e] w.S)) (appH m w.H x) := by
  unfold appH
  split
  · rename_i j
    split
    · exact trivial
    · rename_i hjm
      split
      · rename_i vs hl
        cases h with
        | r hj =>
        obtain ⟨k, es, rfl, hfj, ej, cj⟩ := hot_lst g hj hl
        have hmk : ∀ {fm : List Nat}, w.fps[m]? = some fm → k ∉ fm := fun {fm} hf z => hjm (g.dis m j fm [k] k hf hfj z (List.mem_singleton.mpr rfl)).symm
        have hnl : ∀ rows, w.H[j]? ≠ some (.live (.ll rows)) := fun rows z => by rw [lstH_some hl] at z; cases z
        have hSk : w.S[k]? = some (.lst es) := lstAt_get ej
        -- in general
        have main : ∀ (n : Nat) (ns : List Nat) (rows : List (List V0)), d = .loc n → w.fps[m]? = some (n :: ns) → (n :: ns).Nodup → w.S[n]? = some (.lst (ns.map .loc)) → RwR w.Live w.S ns rows → ns.length < sizeLine →
            (∀ i d', w.rowAt m i d' → (ns.map D.loc)[i]? = some d') → Sm Wr w (lift (appendD d [.loc k] w.S)) (.ok (.v .non) ((w.H.set j .gone).set m (.live (.ll (rows ++ [vs]))))) := by
          intro n ns rows hdn hf hnd hS hrw hlt hrow
          subst hdn
          have hn := hmk hf
          have hkn : k ≠ n := fun z => hn (by rw [z]; exact List.mem_cons_self)
          have c : Chg w m j (.live (.ll (rows ++ [vs]))) (n :: (ns ++ [k])) (n :: ns) [k] (.loc n) (w.S.set n (.lst ((ns ++ [k]).map .loc))) := by
            refine ⟨hd, hf, hfj, by simp, fun q _ h1 _ => List.getElem?_set_ne (fun z => h1 (by simp [z])), fun q hq => ?_, fun q hq => ?_⟩
            · rcases List.mem_cons.mp hq with rfl | hq
              · exact .inl List.mem_cons_self
              · rcases List.mem_append.mp hq with hq | hq
                · exact .inl (List.mem_cons_of_mem _ hq)
                · exact .inr (.inl hq)
            · rw [List.length_set]
              rcases List.mem_cons.mp hq with rfl | hq
              · exact get_lt hS
              · rcases List.mem_append.mp hq with hq | hq
                · exact hrw.lt q hq
                · rw [List.mem_singleton.mp hq]; exact get_lt hSk
          have hx := chg_ext c
          have hset : ∀ q, q ≠ n → (w.S.set n (.lst ((ns ++ [k]).map .loc)))[q]? = w.S[q]? := fun q hq => List.getElem?_set_ne (Ne.symm hq)
          have hnn : n ∉ ns := (List.nodup_cons.mp hnd).1
          have hr2 : RwR (w.chg m j (.live (.ll (rows ++ [vs]))) (n :: (ns ++ [k])) (w.S.set n (.lst ((ns ++ [k]).map .loc)))).Live (w.S.set n (.lst ((ns ++ [k]).map .loc))) (ns ++ [k]) (rows ++ [vs]) :=
            RwR.append (hrw.up hx fun q hq => hset q fun z => hnn (z ▸ hq)) (.cons ⟨es, (hset k hkn).trans hSk, cj.up hx⟩ .nil)
          have hnd2 : (n :: (ns ++ [k])).Nodup := by
            refine List.nodup_cons.mpr ⟨fun z => ?_, List.nodup_append.mpr ⟨(List.nodup_cons.mp hnd).2, by simp, fun a ha b hb => by rw [List.mem_singleton.mp hb]; exact fun e => hn (List.mem_cons_of_mem _ (e ▸ ha))⟩⟩
            rcases List.mem_append.mp z with z | z
            · exact hnn z
            · exact hkn (List.mem_singleton.mp z).symm
          have gq := g.chg c ⟨n, ns ++ [k], rfl, rfl, hnd2, List.getElem?_set_self (get_lt hS), hr2⟩
          have uq := Up.chg g c (fun i d' hro => by
            unfold Wo.rowAt
            rw [chg_H c g]
            refine ⟨n, _, hd, List.getElem?_set_self (get_lt hS), ?_⟩
            have := hrow i d' hro
            rw [List.map_append, List.getElem?_append_left (List.getElem?_eq_some_iff.mp this).1]
            exact this) (.inr hnl)
          have e2 : lift (appendD (.loc n) [.loc k] w.S) = .ok .non (w.S.set n (.lst ((ns ++ [k]).map .loc))) := by
            unfold appendD lstAt
            simp only [hS]
            rw [if_pos (by rw [List.length_map]; exact hlt), List.map_append]
            rfl
          rw [e2]
          exact Sm.to gq uq (.v .non) rfl rfl
        split
        · rename_i he
          obtain ⟨d0, fp, a1, a2, n, ds, rfl, rfl, a3, a4⟩ := g.ob m _ he
          rw [hd] at a1
          cases a1
          cases a4
          exact main n [] [] rfl a2 (by simp) a3 .nil (by decide) fun i d' z => (row_no he (fun _ z => nomatch z) z).elim
        · rename_i rows he
          split
          · rename_i hz
            obtain ⟨d0, fp, a1, a2, n, ns, rfl, rfl, nd, a3, a4⟩ := g.ob m _ he
            rw [hd] at a1
            cases a1
            refine main n ns rows rfl a2 nd a3 a4 (by rw [a4.len]; exact hz) fun i d' z => ?_
            unfold Wo.rowAt at z
            rw [he] at z
            obtain ⟨n', ds, c1, c2, c3⟩ := z
            rw [hd] at c1
            cases c1
            rw [a3] at c2
            cases c2
            exact c3
          · exact trivial
        · exact trivial
      · exact trivial
  · exact trivial
/-- a row is written -/
theorem RwR.set {L : Nat → Prop} {S S' : Sto} {L' : Nat → Prop} {k : Nat} {es : List D} {row : List V0} (hS : S'[k]? = some (.lst es)) (c : Cvs L' S' es row) (e : Ext L S L' S') (hs : ∀ q, q ≠ k → S'[q]? = S[q]?) : ∀ {ns : List Nat} {rows : List (List V0)} {i : Nat}, ns.Nodup → RwR L S ns rows → ns[i]? = some k → RwR L' S' ns (rows.set i row)
  | [], _, i, hn, .nil, h => by cases h
  | a :: ns, _ :: rows, 0, hn, .cons _ t, h => by
    cases h
    exact .cons ⟨es, hS, c⟩ (RwR.up e (fun q hq => hs q fun z => (List.nodup_cons.mp hn).1 (z ▸ hq)) t)
  | a :: ns, _ :: rows, i + 1, hn, .cons p t, h => by
    obtain ⟨fs, q, z⟩ := p
    have h' : ns[i]? = some k := h
    have hk : a ≠ k := fun z => (List.nodup_cons.mp hn).1 (by rw [z]; exact List.mem_of_getElem? h')
    exact .cons ⟨fs, (hs a hk).trans q, z.up e⟩ (RwR.set hS c e hs (List.nodup_cons.mp hn).2 t h')
theorem sm_row (g : Gd w) {m i : Nat} {d e : D} {x : V0} {row row' : List V0} {es : List D} (h : w.rowAt m i d) (hv : rowV w.H m i = some row) (c : Cvs w.Live w.S es row') (cx : Cv w.Live w.S e x) :
    ∃ k fs, d = .loc k ∧ lstAt w.S k = some fs ∧ Cvs w.Live w.S fs row ∧ ∃ w', w'.S = w.S.set k (.lst es) ∧ w'.H = setRow w.H m i row' ∧ Gd w' ∧ Up w w' ∧ Cv w'.Live w'.S e x := by
  obtain ⟨n, ns, rows, k, fs, he, hri, hd, hf, hnd, hS, hrw, rfl, hik, hSk, cf⟩ := row_val g h hv
  have hkn : k ∈ ns := List.mem_of_getElem? hik
  have hn : n ≠ k := fun z => (List.nodup_cons.mp hnd).1 (z ▸ hkn)
  have ch : Chg w m m (.live (.ll (rows.set i row'))) (n :: ns) (n :: ns) (n :: ns) (.loc n) (w.S.set k (.lst es)) :=
    ⟨hd, hf, hf, by simp, fun q _ h1 _ => List.getElem?_set_ne (fun z => h1 (by rw [← z]; exact List.mem_cons_of_mem _ hkn)), fun q hq => .inl hq, fun q hq => by
      rw [List.length_set]
      exact g.lt (.inr ⟨m, _, hf, hq⟩)⟩
  have hx := chg_ext ch
  have hr2 := RwR.set (L := w.Live) (S := w.S) (List.getElem?_set_self (get_lt hSk)) (c.up hx) hx (fun q hq => List.getElem?_set_ne (Ne.symm hq)) (List.nodup_cons.mp hnd).2 hrw hik
  have gq := g.chg ch ⟨n, ns, rfl, rfl, hnd, (List.getElem?_set_ne (Ne.symm hn)).trans hS, hr2⟩
  have uq := Up.chg g ch (fun i' d' hro => by
    unfold Wo.rowAt at hro ⊢
    rw [chg_H ch g]
    rw [he] at hro
    obtain ⟨n', ds, c1, c2, c3⟩ := hro
    rw [hd] at c1
    cases c1
    rw [hS] at c2
    cases c2
    exact ⟨n, _, hd, (List.getElem?_set_ne (Ne.symm hn)).trans hS, c3⟩) (.inl rfl)
  refine ⟨k, fs, rfl, by simp [lstAt, hSk], cf, _, rfl, ?_, gq, uq, cx.up hx⟩
  unfold setRow
  rw [he]
  show (w.H.set m _).set m _ = _
  rw [List.set_set]
theorem sm_appq (g : Gd w) {m i : Nat} {d e : D} {x : W} (hd : w.rowAt m i d) (h : Wr w e x) : Sm Wr w (lift (appendD d [e] w.S)) (appQ m i (fzW x w.H)) := by
  cases ef : fzW x w.H with
  | none => exact trivial
  | some p =>
    obtain ⟨v, H'⟩ := p
    obtain ⟨w1, a, b, b2, g1, u, c⟩ := fzW_ok g h ef
    subst b
    have hd := u.row m i d hd
    refine Sm.pre u ?_
    rw [← a]
    unfold appQ
    dsimp only
    split
    · rename_i vs hl
      split
      · rename_i hz
        obtain ⟨n, ns, rows, k, fs, _, _, _, _, _, _, _, rfl, _, b2, b3⟩ := row_val g1 hd hl
        obtain ⟨k', fs', e1, e2, c2, w2, q1, q2, g2, u2, c3⟩ := sm_row (x := .non) (e := .non) g1 hd hl (b3.append (.cons c .nil)) .non
        cases e1
        have : lift (appendD (.loc k) [e] w1.S) = .ok .non (w1.S.set k (.lst (fs ++ [e]))) := by
          unfold appendD lstAt
          simp only [b2]
          rw [if_pos (by rw [b3.length]; exact hz)]
          rfl
        rw [this]
        exact Sm.to g2 u2 (.v .non) q1.symm q2.symm
      · exact trivial
    · exact trivial
theorem sm_q (g : Gd w) {o : M1} {m i : Nat} {d : D} {ds : List D} {ws : List W} (hd : w.rowAt m i d) (h : Wrs w ds ws) : Sm Wr w (lift (o.d d ds w.S)) (qW o m i ws w.H) := by
  unfold qW
  split
  · cases h with
    | cons h1 h2 => cases h2; exact sm_appq g hd h1
  · exact trivial
theorem sm_m (g : Gd w) {o : M1} {m : Nat} {d : D} {ds : List D} {ws : List W} (hd : w.rho[m]? = some d) (h : Wrs w ds ws) : Sm Wr w (lift (o.d d ds w.S)) (mW o m ws w.H) := by
  unfold mW
  split
  · cases h with
    | cons h1 h2 => cases h2; exact sm_app g hd h1
  · cases h with
    | cons h1 h2 => cases h2; exact sm_ext g hd h1
  · exact sm_pop g hd h
  · cases h with
    | cons h1 h2 => cases h2; exact sm_apph g hd h1
  · exact trivial

/-! ### targets -/
theorem comp_ok {d : D} {x : W} {ws : List W} (h : Wr w d x) (e : compW x = some ws) : ∃ ds, d = .tup ds ∧ Wrs w ds ws := by
  unfold compW at e
  split at e
  · cases e
    cases h with
    | v h =>
    cases h with
    | tup c => exact ⟨_, rfl, cvs_wrs c⟩
  · cases e
    cases h with
    | t h => exact ⟨_, rfl, h⟩
  · cases e
theorem setAll_ok (g : Gd w) : ∀ {is : List Nat} {ds : List D} {ws : List W} {env : Env} {we we' : WEnv}, Wrs w ds ws → Er w env we → setAll is ws we = some we' → ∃ env', gAll (is.map gNm) ds env w.S = .ok env' w.S ∧ Er w env' we'
  | [], _, [], env, we, we', .nil, he, e => by
    simp only [setAll] at e
    cases e
    exact ⟨env, rfl, he⟩
  | i :: is, _, x :: ws, env, we, we', .cons h t, he, e => by
    simp only [setAll] at e
    obtain ⟨env', e1, r⟩ := setAll_ok g t (he.set i h) e
    exact ⟨env', e1, r⟩
  | [], _, _ :: _, _, _, _, _, _, e => by simp [setAll] at e
  | _ :: _, _, [], _, _, _, _, _, e => by simp [setAll] at e
theorem sm_tp (g : Gd w) {is : List Nat} {d : D} {x : W} {env : Env} {we : WEnv} (h : Wr w d x) (he : Er w env we) : Sm Er w (gTp (is.map gNm) d env w.S) (ofEnv ((compW x).bind fun ws => setAll is ws we) w.H) := by
  cases e : (compW x).bind fun ws => setAll is ws we with
  | none => exact trivial
  | some we' =>
    obtain ⟨ws, e1, e2⟩ := Option.bind_eq_some_iff.mp e
    obtain ⟨ds, rfl, hs⟩ := comp_ok h e1
    obtain ⟨env', e3, r⟩ := setAll_ok g hs he e2
    show Sm Er w (gAll (is.map gNm) ds env w.S) _
    rw [e3]
    exact .ok g r
theorem sm_sto (g : Gd w) {o i x : W} {d e v : D} {env : Env} {we : WEnv} (ho : Wr w d o) (hi : Wr w e i) (hx : Wr w v x) (he : Er w env we) :
    Sm Er w (match setDD d e v w.S with | some S3 => .ok env S3 | none => .stk) (stoW o i we (fzW x w.H)) := by
  cases ef : fzW x w.H with
  | none => exact trivial
  | some p =>
    obtain ⟨y, H'⟩ := p
    obtain ⟨w1, a, b, b2, g1, u, c⟩ := fzW_ok g hx ef
    subst b
    refine Sm.pre u ?_
    rw [← a]
    have ho := ho.up u
    have hi := hi.up u
    have he := he.up u
    clear hx ef a b2
    unfold stoW
    dsimp only
    cases em : dctAt w1.H o with
    | some mh =>
      obtain ⟨m, h⟩ := mh
      dsimp only
      obtain ⟨rfl, hm, hne⟩ := dctAt_some em
      cases ho with
      | r hd =>
      cases hs : (dvW w1.H i).bind fun k => dstoreV h k y with
      | none => exact trivial
      | some h' =>
        obtain ⟨k, e1, e2⟩ := Option.bind_eq_some_iff.mp hs
        have hk := dvW_ok g1 hi e1
        obtain ⟨d', fp, q1, q2, q3⟩ := g1.ob m _ hm
        rw [hd] at q1
        cases q1
        cases h with
        | lst vs => exact absurd rfl (hne vs)
        | ins c fs => cases e2
        | ll rows => cases e2
        | dd kvs =>
          obtain ⟨n, ds, rfl, rfl, e3, kr⟩ := q3
          have z : w1.Live n := .inr ⟨m, [n], q2, List.mem_singleton.mpr rfl⟩
          have zo := g1.dis0 m [n] n q2 (List.mem_singleton.mpr rfl)
          simp only [dstoreV] at e2
          split at e2
          · rename_i kk ek
            split at e2
            · rename_i hz
              cases e2
              have : setDD (.loc n) e v w1.S = some (w1.S.set n (.dd (dput ds kk v))) := by
                simp only [setDD, isDc, e3, dstore, tkT_cv hk ek]
                rw [if_pos (by rw [kv_len kr]; exact hz)]
              rw [this]
              refine Sm.to (w' := w1.put m n (.dd (dputV kvs kk y)) (.dd (dput ds kk v))) (g1.put hd q2 ⟨n, _, rfl, rfl, List.getElem?_set_self (g1.lt z), ?_⟩) (Up.put g1 hm (fun _ z => nomatch z) hd q2) (he.up (Up.put g1 hm (fun _ z => nomatch z) hd q2)) rfl put_H.symm
              exact (kv_put c kr).up (put_ext g1 hd q2)
            · cases e2
          · cases e2
        | dk kvs =>
          obtain ⟨n, ds, rfl, rfl, e3, kr⟩ := q3
          have z : w1.Live n := .inr ⟨m, [n], q2, List.mem_singleton.mpr rfl⟩
          have zo := g1.dis0 m [n] n q2 (List.mem_singleton.mpr rfl)
          simp only [dstoreV] at e2
          split at e2
          · rename_i kk ek
            split at e2
            · rename_i hz
              cases e2
              have : setDD (.loc n) e v w1.S = some (w1.S.set n (.dk (dput ds kk v))) := by
                simp only [setDD, isDc, e3, dstore, keyS_cv hk ek]
                rw [if_pos (by rw [kv_len kr]; exact hz)]
              rw [this]
              refine Sm.to (w' := w1.put m n (.dk (dputV kvs kk y)) (.dk (dput ds kk v))) (g1.put hd q2 ⟨n, _, rfl, rfl, List.getElem?_set_self (g1.lt z), ?_⟩) (Up.put g1 hm (fun _ z => nomatch z) hd q2) (he.up (Up.put g1 hm (fun _ z => nomatch z) hd q2)) rfl put_H.symm
              exact (kv_put c kr).up (put_ext g1 hd q2)
            · cases e2
          · rename_i ek
            split at e2
            · rename_i kk ek2
              cases e2
              cases kr
              have : setDD (.loc n) e v w1.S = some (w1.S.set n (.dd (dput [] kk v))) := by
                simp only [setDD, isDc, e3, dstore, keyS_no hk ek, tkT_cv hk ek2]
              rw [this]
              refine Sm.to (w' := w1.put m n (.dd (dputV [] kk y)) (.dd (dput [] kk v))) (g1.put hd q2 ⟨n, _, rfl, rfl, List.getElem?_set_self (g1.lt z), ?_⟩) (Up.put g1 hm (fun _ z => nomatch z) hd q2) (he.up (Up.put g1 hm (fun _ z => nomatch z) hd q2)) rfl put_H.symm
              exact (kv_put c .nil).up (put_ext g1 hd q2)
            · cases e2
    | none =>
      dsimp only
      cases ho with
      | v _ => exact trivial
      | t _ => exact trivial
      | q hd =>
        rename_i m j
        dsimp only
        cases hs : (rowV w1.H m j).bind fun vs => (dvW w1.H i).bind (setQ vs y) with
        | none => exact trivial
        | some row =>
          obtain ⟨vs, e1, e2⟩ := Option.bind_eq_some_iff.mp hs
          obtain ⟨k, e3, e4⟩ := Option.bind_eq_some_iff.mp e2
          have hk := dvW_ok g1 hi e3
          unfold setQ at e4
          split at e4
          · rename_i z
            split at e4
            · rename_i p ep
              cases e4
              cases hk
              obtain ⟨n, ns, rows, kk, fs, _, _, _, _, _, _, _, rfl, _, b2, b3⟩ := row_val g1 hd e1
              obtain ⟨k', fs', e5, e6, c2, w2, q1, q2, g2, u2, c3⟩ := sm_row (x := .non) (e := .non) g1 hd e1 (b3.set c p) .non
              cases e5
              have : setDD (.loc kk) (.int z) v w1.S = some (w1.S.set kk (.lst (fs.set p v))) := by
                simp only [setDD, isDc, b2, setD, lstAt, b3.length, ep]
              rw [this]
              exact Sm.to g2 u2 (he.up u2) q1.symm q2.symm
            · cases e4
          · cases e4
      | r hd =>
        rename_i m
        dsimp only
        cases hs : (lstH w1.H m).bind fun vs => (dvW w1.H i).bind (setI vs y) with
        | none => exact trivial
        | some h' =>
          obtain ⟨vs, e1, e2⟩ := Option.bind_eq_some_iff.mp hs
          obtain ⟨k, e3, e4⟩ := Option.bind_eq_some_iff.mp e2
          have hk := dvW_ok g1 hi e3
          obtain ⟨n, ds, rfl, hf, e5, cs⟩ := hot_lst g1 hd e1
          unfold setI at e4
          split at e4
          · rename_i ii
            cases hk
            cases ej : ixN vs.length ii with
            | none => rw [ej] at e4; cases e4
            | some j =>
              rw [ej] at e4
              cases e4
              have hsq : seqOf w1.S (.loc n) = some ds := e5
              have : setDD (.loc n) (.int ii) v w1.S = some (w1.S.set n (.lst (ds.set j v))) := by
                simp only [setDD, seq_noDc hsq, setD, e5]
                rw [cs.length, ej]
              rw [this]
              have z : w1.Live n := .inr ⟨m, [n], hf, List.mem_singleton.mpr rfl⟩
              have zo := g1.dis0 m [n] n hf (List.mem_singleton.mpr rfl)
              exact Sm.to (g1.putL hd hf (cs.set c j)) (Up.put g1 (lstH_some e1) (fun _ z => nomatch z) hd hf) (he.up (Up.put g1 (lstH_some e1) (fun _ z => nomatch z) hd hf)) rfl put_H.symm
          · cases e4
end
end PV

set_option Elab.async false
set_option linter.all false
set_option maxRecDepth 100000
set_option maxHeartbeats 3999000
namespace PV
open L2 PyProof.Rows PySem PySem.Spec
section
variable {w : Wo}

/-! ### what is gone through -/
def rgK (ds : List D) (S : Sto) : Out IT := match ds with
    | [.int j] => if small62 j = true then .ok (.items (upTo 0 j.toNat)) S else .stk
    | [.int i, .int j] => if small62 i = true ∧ small62 j = true then .ok (.items (upTo i (j - i).toNat)) S else .stk
    | [.int i, .int j, .int c] => if c = -1 ∧ small62 i = true ∧ small62 j = true then .ok (.items (dnTo i (i - j).toNat)) S else .stk
    | _ => .stk
def enK (ds : List D) (S : Sto) : Out IT := match ds with
    | [.loc n] => (match lstAt S n with
      | some _ => .ok (.enumL n) S
      | none => .stk)
    | [.fz ds] => .ok (.enum ds) S
    | [.tup ds] => .ok (.enum ds) S
    | _ => .stk
def zpK (ds : List D) (S : Sto) : Out IT := match ds with
    | [.loc n, .loc m] => (match lstAt S n, lstAt S m with
      | some _, some _ => .ok (.zipL n m) S
      | _, _ => .stk)
    | _ => .stk
def Ir (w : Wo) (it : IT) (xs : List V0) : Prop := turns it w.S = xs.length ∧ ∀ w', Up w w' → Gd w' → ∀ i : Nat, (xs[i]? = none → nxt it i w'.S = some none) ∧ ∀ x, xs[i]? = some x → ∃ d, nxt it i w'.S = some (some d) ∧ Cv w'.Live w'.S d x
theorem Ir.up {w' : Wo} {it : IT} {xs : List V0} (u : Up w w') (h : ∀ w2, Up w w2 → Gd w2 → turns it w2.S = xs.length) (g : Gd w') (q : Ir w it xs) : Ir w' it xs := ⟨h w' u g, fun w2 u2 g2 => q.2 w2 (u.trans u2) g2⟩
theorem cvs_none {L : Nat → Prop} {S : Sto} {ds : List D} {xs : List V0} (c : Cvs L S ds xs) {i : Nat} (h : xs[i]? = none) : ds[i]? = none := by
  rw [List.getElem?_eq_none_iff] at h ⊢
  rw [c.length]; exact h
theorem ir_items {ds : List D} {xs : List V0} (c : Cvs w.Live w.S ds xs) : Ir w (.items ds) xs := by
  refine ⟨c.length, fun w' u g i => ⟨fun h => ?_, fun x h => ?_⟩⟩
  · show some ds[i]? = _
    rw [cvs_none c h]
  · obtain ⟨d, e, q⟩ := (c.up u.ext).get h
    exact ⟨d, by show some ds[i]? = _; rw [e], q⟩
theorem ir_live {n : Nat} {ds : List D} {xs : List V0} (z : ¬ w.Live n) (e : w.S[n]? = some (.lst ds)) (c : Cvs w.Live w.S ds xs) : Ir w (.live n) xs := by
  refine ⟨by simp [turns, lstAt, e, c.length], fun w' u g i => ?_⟩
  have e' : lstAt w'.S n = some ds := by simp [lstAt, (u.ext.at_ n (get_lt e) z).1, e]
  refine ⟨fun h => ?_, fun x h => ?_⟩
  · simp [nxt, e', cvs_none c h]
  · obtain ⟨d, q1, q⟩ := (c.up u.ext).get h
    exact ⟨d, by simp [nxt, e', q1], q⟩
theorem it_of {d : D} {x : V0} {xs : List V0} (c : Cv w.Live w.S d x) (hx : seqV x = some xs) : ∃ it, itOf d w.S = some it ∧ Ir w it xs := by
  cases c with
  | tup c => cases hx; exact ⟨_, rfl, ir_items c⟩
  | fz c => cases hx; exact ⟨_, rfl, ir_items c⟩
  | loc z e c => cases hx; exact ⟨.live _, by simp [itOf, lstAt, e], ir_live z e c⟩
  | _ => cases hx
theorem sm_seqIt (g : Gd w) {d : D} {x : W} (h : Wr w d x) : Sm Ir w (match itOf d w.S with | some it => .ok it w.S | none => .stk) (itemsF (fzW x w.H)) := by
  cases ef : fzW x w.H with
  | none => exact trivial
  | some p =>
    obtain ⟨y, H'⟩ := p
    obtain ⟨w1, a, b, b2, g1, u, c⟩ := fzW_ok g h ef
    subst b
    refine Sm.pre u ?_
    rw [← a]
    unfold itemsF
    dsimp only
    cases e : seqV y with
    | none => exact trivial
    | some xs =>
      obtain ⟨it, e1, r⟩ := it_of c e
      rw [e1]
      exact .ok g1 r
theorem upTo_cv {L : Nat → Prop} {S : Sto} : ∀ (n : Nat) (lo : Int), Cvs L S (upTo lo n) (upToV lo n)
  | 0, _ => .nil
  | n + 1, lo => .cons (.int lo) (upTo_cv n (lo + 1))
theorem dnTo_cv {L : Nat → Prop} {S : Sto} : ∀ (n : Nat) (hi : Int), Cvs L S (dnTo hi n) (dnToV hi n)
  | 0, _ => .nil
  | n + 1, hi => .cons (.int hi) (dnTo_cv n (hi - 1))
theorem sm_rgIt (g : Gd w) {ds : List D} {ws : List W} (h : Wrs w ds ws) : Sm Ir w (rgK ds w.S) (rangeW w.H ws) := by
  unfold rangeW
  split
  · cases h with
    | cons a r =>
    cases r
    cases a with
    | v a =>
    cases a
    dsimp only [rgK]
    split
    · exact .ok g (ir_items (upTo_cv _ _))
    · exact trivial
  · cases h with
    | cons a r =>
    cases r with
    | cons b r =>
    cases r
    cases a with
    | v a =>
    cases b with
    | v b =>
    cases a
    cases b
    dsimp only [rgK]
    split
    · exact .ok g (ir_items (upTo_cv _ _))
    · exact trivial
  · cases h with
    | cons a r =>
    cases r with
    | cons b r =>
    cases r with
    | cons c r =>
    cases r
    cases a with
    | v a =>
    cases b with
    | v b =>
    cases c with
    | v c =>
    cases a
    cases b
    cases c
    dsimp only [rgK]
    split
    · exact .ok g (ir_items (dnTo_cv _ _))
    · exact trivial
  · exact trivial
theorem enV_get : ∀ (xs : List V0) (k i : Nat), (enV k xs)[i]? = xs[i]?.map fun x => .tup [.int ((k + i : Nat) : Int), x]
  | [], _, _ => by simp [enV]
  | x :: r, k, 0 => by simp [enV]
  | x :: r, k, i + 1 => by
    simp only [enV, List.getElem?_cons_succ]
    rw [enV_get r (k + 1) i]
    congr 2
    funext y
    rw [show k + 1 + i = k + (i + 1) by omega]
theorem enV_len : ∀ (xs : List V0) (k : Nat), (enV k xs).length = xs.length
  | [], _ => rfl
  | x :: r, k => by rw [enV, List.length_cons, List.length_cons, enV_len r]
theorem en_step {L : Nat → Prop} {S : Sto} {ds : List D} {xs : List V0} (c : Cvs L S ds xs) (i : Nat) : ((enV 0 xs)[i]? = none → (ds[i]?.map fun d => D.tup [.int (i : Nat), d]) = none) ∧ ∀ x, (enV 0 xs)[i]? = some x → ∃ d, (ds[i]?.map fun d => D.tup [.int (i : Nat), d]) = some d ∧ Cv L S d x := by
  rw [enV_get]
  refine ⟨fun h => ?_, fun x h => ?_⟩
  · rw [cvs_none c (Option.map_eq_none_iff.mp h)]; rfl
  · obtain ⟨y, e, rfl⟩ := Option.map_eq_some_iff.mp h
    obtain ⟨d, e1, q⟩ := c.get e
    rw [e1]
    refine ⟨_, rfl, .tup (.cons ?_ (.cons q .nil))⟩
    rw [Nat.zero_add]
    exact .int _
theorem sm_enIt (g : Gd w) {ds : List D} {ws : List W} (h : Wrs w ds ws) : Sm Ir w (enK ds w.S) (enumW w.H ws) := by
  unfold enumW
  split
  · rename_i x
    cases h with
    | cons a r =>
    cases r
    cases ef : fzW x w.H with
    | none => exact trivial
    | some p =>
      obtain ⟨y, H'⟩ := p
      obtain ⟨w1, a, b, b2, g1, u, c⟩ := fzW_ok g a ef
      subst b
      refine Sm.pre u ?_
      rw [← a]
      unfold enumF
      dsimp only
      cases e : seqV y with
      | none => exact trivial
      | some xs =>
        cases c with
        | tup c => cases e; exact .ok g1 ⟨by rw [enV_len]; exact c.length, fun w' u' g' i => let q := en_step (c.up u'.ext) i; ⟨fun h => congrArg some (q.1 h), fun x h => let ⟨d, e, r⟩ := q.2 x h; ⟨d, congrArg some e, r⟩⟩⟩
        | fz c => cases e; exact .ok g1 ⟨by rw [enV_len]; exact c.length, fun w' u' g' i => let q := en_step (c.up u'.ext) i; ⟨fun h => congrArg some (q.1 h), fun x h => let ⟨d, e, r⟩ := q.2 x h; ⟨d, congrArg some e, r⟩⟩⟩
        | @loc n ds xs z e1 c =>
          cases e
          have e2 : lstAt w1.S n = some ds := by simp [lstAt, e1]
          simp only [enK, e2]
          refine .ok g1 ⟨by rw [enV_len]; simp [turns, e2, c.length], fun w' u' g' i => ?_⟩
          have e' : lstAt w'.S n = some ds := by simp [lstAt, (u'.ext.at_ n (get_lt e1) z).1, e1]
          have q := en_step (c.up u'.ext) i
          refine ⟨fun h => ?_, fun x h => ?_⟩
          · simp only [nxt, e']; exact congrArg some (q.1 h)
          · obtain ⟨d, e, r⟩ := q.2 x h
            exact ⟨d, by simp only [nxt, e']; exact congrArg some e, r⟩
        | _ => cases e
  · exact trivial
theorem zip_step {L : Nat → Prop} {S : Sto} : ∀ {ds es : List D} {xs ys : List V0} (i : Nat), Cvs L S ds xs → Cvs L S es ys → ((zipV xs ys)[i]? = none → (match ds[i]?, es[i]? with | some d, some e => some (D.tup [d, e]) | _, _ => none) = none) ∧ ∀ x, (zipV xs ys)[i]? = some x → ∃ d, (match ds[i]?, es[i]? with | some d, some e => some (D.tup [d, e]) | _, _ => none) = some d ∧ Cv L S d x
  | _, _, _, _, i, .nil, c => by simp [zipV]
  | _, _, _, _, i, .cons h t, .nil => by simp [zipV]
  | _, _, _, _, 0, .cons h t, .cons h' t' => by
    refine ⟨fun e => by simp [zipV] at e, fun x e => ?_⟩
    simp [zipV] at e
    subst e
    exact ⟨_, rfl, .tup (.cons h (.cons h' .nil))⟩
  | _, _, _, _, i + 1, .cons h t, .cons h' t' => by
    have ih := zip_step i t t'
    simpa only [zipV, List.getElem?_cons_succ] using ih
theorem zipV_len : ∀ xs ys : List V0, (zipV xs ys).length ≤ xs.length
  | [], _ => by simp [zipV]
  | _ :: _, [] => by simp [zipV]
  | _ :: r, _ :: s => by simp [zipV]; exact zipV_len r s

/-! ### loops: the turns may be more than the items -/
def Ir' (w : Wo) (it : IT) (xs : List V0) : Prop := xs.length ≤ turns it w.S ∧ ∀ w', Up w w' → Gd w' → ∀ i : Nat, (xs[i]? = none → nxt it i w'.S = some none) ∧ ∀ x, xs[i]? = some x → ∃ d, nxt it i w'.S = some (some d) ∧ Cv w'.Live w'.S d x
theorem Ir.wk {it : IT} {xs : List V0} (h : Ir w it xs) : Ir' w it xs := ⟨Nat.le_of_eq h.1.symm, h.2⟩
theorem sm_zpIt (g : Gd w) {ds : List D} {ws : List W} (h : Wrs w ds ws) : Sm Ir' w (zpK ds w.S) (zipW w.H ws) := by
  unfold zipW
  split
  · rename_i x y
    cases ef : fzWs [x, y] w.H with
    | none => exact trivial
    | some p =>
      obtain ⟨vs, H'⟩ := p
      obtain ⟨w1, a, b, b2, g1, u, c⟩ := fzWs_ok g h ef
      subst b
      refine Sm.pre u ?_
      rw [← a]
      unfold zipF
      split
      · rename_i xs ys q
        cases q
        cases c with
        | cons c1 c2 =>
        cases c2 with
        | cons c2 c3 =>
        cases c3
        cases c1 with
        | @loc n ds xs z1 e1 c1 =>
        cases c2 with
        | @loc m es ys z2 e2 c2 =>
        have l1 : lstAt w1.S n = some ds := by simp [lstAt, e1]
        have l2 : lstAt w1.S m = some es := by simp [lstAt, e2]
        simp only [zpK, l1, l2]
        refine .ok g1 ⟨by simp [turns, l1, c1.length, zipV_len], fun w' u' g' i => ?_⟩
        have e1' : lstAt w'.S n = some ds := by simp [lstAt, (u'.ext.at_ n (get_lt e1) z1).1, e1]
        have e2' : lstAt w'.S m = some es := by simp [lstAt, (u'.ext.at_ m (get_lt e2) z2).1, e2]
        have q := zip_step i (c1.up u'.ext) (c2.up u'.ext)
        refine ⟨fun h => ?_, fun x h => ?_⟩
        · simp only [nxt, e1', e2']; exact congrArg some (q.1 h)
        · obtain ⟨d, e, r⟩ := q.2 x h
          exact ⟨d, by simp only [nxt, e1', e2']; exact congrArg some e, r⟩
      · exact trivial
  · exact trivial
/-- bind, seen from an earlier world -/
theorem sm_bind2 {α β γ δ : Type} {R : Wo → α → β → Prop} {R' : Wo → γ → δ → Prop} {w0 w : Wo} {o : Out α} {p : Rs β} {k : α → Sto → Out γ} {k' : β → Hot → Rs δ} (h : Sm R w o p)
    (hk : ∀ w' a b, Gd w' → Up w w' → R w' a b → Sm R' w0 (k a w'.S) (k' b w'.H)) (hx : ∀ w', Up w w' → Up w0 w' := by first | exact fun _ u => u | exact fun _ u => Up.trans (by assumption) u) : Sm R' w0 (o.bind k) (p.bind k') := by
  cases p with
  | ok b H' =>
    obtain ⟨a, w', rfl, rfl, g, u, r⟩ := h
    exact hk w' a b g u r
  | exc y H' =>
    obtain ⟨x, w', rfl, rfl, g, u, r⟩ := h
    exact ⟨x, w', rfl, rfl, g, hx _ u, r⟩
  | stk => exact trivial
mutual
theorem ref_ok {L : Nat} : ∀ {x : W} {d : D}, Wr w d x → refLt L x = true → Wr (w.tak L) d x
  | _, _, .v h, _ => .v (h.up tak_ext)
  | _, _, .r h, e => by unfold refLt at e; exact .r (take_of h (of_decide_eq_true e))
  | _, _, .t h, e => by unfold refLt at e; exact .t (refs_ok h e)
  | _, _, .q h, e => by unfold refLt at e; exact .q (row_tak (of_decide_eq_true e) h)
theorem refs_ok {L : Nat} : ∀ {x : List W} {d : List D}, Wrs w d x → refsLt L x = true → Wrs (w.tak L) d x
  | _, _, .nil, _ => .nil
  | _, _, .cons h r, e => by
    unfold refsLt at e
    rw [Bool.and_eq_true] at e
    exact .cons (ref_ok h e.1) (refs_ok r e.2)
end
theorem gcE_len (L : Nat) : ∀ we : WEnv, (gcE L we).length = we.length
  | [] => rfl
  | none :: r => by simp [gcE, gcE_len L r]
  | some w :: r => by simp [gcE, gcE_len L r]
theorem gcE_get (L : Nat) : ∀ (we : WEnv) (i : Nat) (x : W), (gcE L we)[i]? = some (some x) → we[i]? = some (some x) ∧ refLt L x = true
  | [], i, x, h => by simp [gcE] at h
  | none :: r, 0, x, h => by simp [gcE] at h
  | none :: r, i + 1, x, h => by simp only [gcE, List.getElem?_cons_succ] at h ⊢; exact gcE_get L r i x h
  | some w :: r, 0, x, h => by
    simp only [gcE, List.getElem?_cons_zero, Option.some.injEq] at h ⊢
    split at h
    · cases h; exact ⟨rfl, ‹_›⟩
    · cases h
  | some w :: r, i + 1, x, h => by simp only [gcE, List.getElem?_cons_succ] at h ⊢; exact gcE_get L r i x h
theorem er_gc {L : Nat} {env : Env} {we : WEnv} (h : Er w env we) : Er (w.tak L) env (gcE L we) := by
  refine ⟨by rw [gcE_len]; exact h.len, fun i x e => ?_⟩
  obtain ⟨e1, e2⟩ := gcE_get L we i x e
  obtain ⟨d, a, b⟩ := h.val i x e1
  exact ⟨d, a, ref_ok b e2⟩
/-- on, with or without forgetting -/
theorem gc_sm {w w2 : Wo} {gc : Bool} {o : Out Fl} {go : WEnv → Hot → Rs Fw0} {env : Env} {we : WEnv} (g : Gd w) (g2 : Gd w2) (u : Up w w2) (er : Er w2 env we) (h : ∀ w3, Gd w3 → Up w w3 → w3.S = w2.S → ∀ we3, Er w3 env we3 → Sm Flr w3 o (go we3 w3.H)) :
    ∃ w3, Up w w3 ∧ w3.S = w2.S ∧ Sm Flr w3 o (gcS gc w.H.length go we w2.H) := by
  cases gc with
  | true =>
    by_cases hc : closedL w.H.length w2.H = true
    · refine ⟨w2.tak w.H.length, .tak g u, rfl, ?_⟩
      show Sm Flr _ o (if closedL w.H.length w2.H = true then go (gcE w.H.length we) (w2.H.take w.H.length) else go we w2.H)
      rw [if_pos hc]
      exact h _ (g2.tak hc) (.tak g u) rfl _ (er_gc er)
    · refine ⟨w2, u, rfl, ?_⟩
      show Sm Flr _ o (if closedL w.H.length w2.H = true then go (gcE w.H.length we) (w2.H.take w.H.length) else go we w2.H)
      rw [if_neg hc]
      exact h w2 g2 u rfl we er
  | false => exact ⟨w2, u, rfl, h w2 g2 u rfl we er⟩
theorem for_sm {gc : Bool} {it : IT} {g : FG} {g' : PG0} {b : FS} {b' : PS0} {xs : List V0} (hg : ∀ w env we d x, Gd w → Er w env we → Wr w d x → Sm Er w (g d env w.S) (g' x we w.H)) (hb : ∀ w env we, Gd w → Er w env we → Sm Flr w (b env w.S) (b' we w.H)) {w0 : Wo} (hi : Ir' w0 it xs) :
    ∀ (r : List V0) (i k : Nat) (w : Wo) (env : Env) (we : WEnv), Up w0 w → Gd w → Er w env we → xs.drop i = r → r.length ≤ k → Sm Flr w (forF it g b (k + 1) i env w.S) (forW gc g' b' r we w.H)
  | [], i, k, w, env, we, u, gd, er, hr, hk => by
    have hn : xs[i]? = none := by
      have := congrArg List.length hr
      simp at this
      exact List.getElem?_eq_none (by omega)
    unfold forF
    rw [((hi.2 w u gd i).1 hn)]
    exact .ok gd er
  | x :: r, i, k, w, env, we, u, gd, er, hr, hk => by
    have hx : xs[i]? = some x := by
      have := congrArg (fun l => l[0]?) hr
      simpa using this
    obtain ⟨d, e, c⟩ := (hi.2 w u gd i).2 x hx
    obtain ⟨k, rfl⟩ : ∃ m, k = m + 1 := ⟨k - 1, by simp at hk; omega⟩
    unfold forF
    rw [e]
    have hr' : xs.drop (i + 1) = r := by
      have := congrArg List.tail hr
      simpa using this
    have hk' : r.length ≤ k := by simp at hk; omega
    have step : ∀ w2 e2 we2, Gd w2 → Up w w2 → Er w2 e2 we2 → Sm Flr w (forF it g b (k + 1) (i + 1) e2 w2.S) (gcS gc w.H.length (forW gc g' b' r) we2 w2.H) := fun w2 e2 we2 gd2 u2 q => by
      obtain ⟨w3, u3, e3, h3⟩ := gc_sm (gc := gc) (o := forF it g b (k + 1) (i + 1) e2 w2.S) (go := forW gc g' b' r) gd gd2 u2 q fun w3 g3 u3 es we3 er3 => by
        rw [← es]
        exact for_sm hg hb hi r (i + 1) k w3 e2 we3 (u.trans u3) g3 er3 hr' hk'
      exact h3.pre u3
    refine sm_bind2 (hg w env we d (.v x) gd er (.v c)) fun w1 env1 we1 gd1 u1 er1 => ?_
    refine sm_bind2 (hb w1 env1 we1 gd1 er1) fun w2 fl fw gd2 u2 q => ?_
    have u12 := u1.trans u2
    cases fw with
    | nx we2 => cases fl with
      | nx e2 => exact step w2 e2 we2 gd2 u12 q
      | _ => exact q.elim
    | ct we2 => cases fl with
      | ct e2 => exact step w2 e2 we2 gd2 u12 q
      | _ => exact q.elim
    | bk we2 => cases fl with
      | bk e2 => exact ⟨_, w2, rfl, rfl, gd2, u12, q⟩
      | _ => exact q.elim
    | rt x => cases fl with
      | rt d => exact ⟨_, w2, rfl, rfl, gd2, u12, q⟩
      | _ => exact q.elim
theorem lc_sm {it : IT} {g : FG} {g' : PG0} {t : FT} {t' : PT0} {f : FE} {f' : PE0} {xs : List V0} {env : Env} {we : WEnv} (hg : ∀ w env we d x, Gd w → Er w env we → Wr w d x → Sm Er w (g d env w.S) (g' x we w.H))
    (ht : ∀ w env we, Gd w → Er w env we → Sm (fun _ a b => a = b) w (t env w.S) (t' we w.H)) (hf : ∀ w env we, Gd w → Er w env we → Sm Wr w (f env w.S) (f' we w.H)) {w0 : Wo} (hi : Ir' w0 it xs) :
    ∀ (r : List V0) (i k : Nat) (w : Wo) (ds : List D) (acc : List V0), Up w0 w → Gd w → Er w env we → Cvs w.Live w.S ds acc → xs.drop i = r → r.length ≤ k → Sm (fun w a b => Cvs w.Live w.S a b) w (lcF it g t f env (k + 1) i ds w.S) (lcW g' t' f' we r acc w.H)
  | [], i, k, w, ds, acc, u, gd, er, c, hr, hk => by
    have hn : xs[i]? = none := by
      have := congrArg List.length hr
      simp at this
      exact List.getElem?_eq_none (by omega)
    unfold lcF
    rw [((hi.2 w u gd i).1 hn)]
    exact .ok gd c
  | x :: r, i, k, w, ds, acc, u, gd, er, cc, hr, hk => by
    have hx : xs[i]? = some x := by
      have := congrArg (fun l => l[0]?) hr
      simpa using this
    obtain ⟨d, e, c⟩ := (hi.2 w u gd i).2 x hx
    obtain ⟨k, rfl⟩ : ∃ m, k = m + 1 := ⟨k - 1, by simp at hk; omega⟩
    have hr' : xs.drop (i + 1) = r := by
      have := congrArg List.tail hr
      simpa using this
    have hk' : r.length ≤ k := by simp at hk; omega
    unfold lcF
    rw [e]
    refine Sm.bind (hg w env we d (.v x) gd er (.v c)) fun w1 env1 we1 gd1 u1 er1 => ?_
    refine Sm.bind (ht w1 env1 we1 gd1 er1) fun w2 bb bb' gd2 u2 q => ?_
    subst q
    have u02 := (u.trans u1).trans u2
    unfold kLcW2
    split
    · refine Sm.bind (hf w2 env1 we1 gd2 (er1.up u2)) fun w3 y y' gd3 u3 q => ?_
      show Sm _ w3 _ (kLcW4 _ acc (fzW y' w3.H))
      cases ef : fzW y' w3.H with
      | none => exact trivial
      | some p =>
        obtain ⟨v, H'⟩ := p
        obtain ⟨w4, a, b, b2, g4, u4, c4⟩ := fzW_ok gd3 q ef
        subst b
        refine Sm.pre u4 ?_
        rw [← a]
        have uu := (u1.trans u2).trans (u3.trans u4)
        have c5 := cc.up uu.ext
        unfold kLcW4
        dsimp only
        rw [cc.length]
        split
        · exact lc_sm hg ht hf hi r (i + 1) k w4 _ _ (u.trans uu) g4 (er.up uu) (c5.append (.cons c4 .nil)) hr' hk'
        · exact trivial
    · exact lc_sm hg ht hf hi r (i + 1) k w2 ds acc u02 gd2 (er.up (u1.trans u2)) (cc.up (u1.trans u2).ext) hr' hk'
theorem wipe_er {env : Env} {we : WEnv} (h : Er w env we) : ∀ vs : List Nat, Er w (wipeE env vs) (wipeW we vs)
  | [] => h
  | v :: vs => by
    have ih := wipe_er h vs
    refine ⟨by unfold wipeE wipeW; rw [List.length_set, List.length_set, ih.len], fun j x hj => ?_⟩
    unfold wipeW at hj
    unfold wipeE
    by_cases e : v = j
    · subst e
      by_cases hl : v < (wipeW we vs).length
      · rw [List.getElem?_set_self hl] at hj; cases hj
      · rw [List.getElem?_eq_none (by simpa using hl)] at hj; cases hj
    · rw [List.getElem?_set_ne e] at hj ⊢
      exact ih.val j x hj
theorem lc2_sm {it : IT} {g : FG} {g' : PG0} {t : FT} {t' : PT0} {fi1 : FI} {fi1' : PI0} {vs1 : List Nat} {g1 : FG} {g1' : PG0} {t1 : FT} {t1' : PT0} {f : FE} {f' : PE0} {xs : List V0} {env : Env} {we : WEnv} (hg : ∀ w env we d x, Gd w → Er w env we → Wr w d x → Sm Er w (g d env w.S) (g' x we w.H))
    (ht : ∀ w env we, Gd w → Er w env we → Sm (fun _ a b => a = b) w (t env w.S) (t' we w.H)) (hi1 : ∀ w env we, Gd w → Er w env we → Sm Ir' w (fi1 env w.S) (fi1' we w.H)) (hg1 : ∀ w env we d x, Gd w → Er w env we → Wr w d x → Sm Er w (g1 d env w.S) (g1' x we w.H))
    (ht1 : ∀ w env we, Gd w → Er w env we → Sm (fun _ a b => a = b) w (t1 env w.S) (t1' we w.H)) (hf : ∀ w env we, Gd w → Er w env we → Sm Wr w (f env w.S) (f' we w.H)) {w0 : Wo} (hi : Ir' w0 it xs) :
    ∀ (r : List V0) (i k : Nat) (w : Wo) (ds : List D) (acc : List V0), Up w0 w → Gd w → Er w env we → Cvs w.Live w.S ds acc → xs.drop i = r → r.length ≤ k → Sm (fun w a b => Cvs w.Live w.S a b) w (lcF2 it g t fi1 vs1 g1 t1 f env (k + 1) i ds w.S) (lcW2 g' t' fi1' vs1 g1' t1' f' we r acc w.H)
  | [], i, k, w, ds, acc, u, gd, er, c, hr, hk => by
    have hn : xs[i]? = none := by
      have := congrArg List.length hr
      simp at this
      exact List.getElem?_eq_none (by omega)
    unfold lcF2
    rw [((hi.2 w u gd i).1 hn)]
    exact .ok gd c
  | x :: r, i, k, w, ds, acc, u, gd, er, cc, hr, hk => by
    have hx : xs[i]? = some x := by
      have := congrArg (fun l => l[0]?) hr
      simpa using this
    obtain ⟨d, e, c⟩ := (hi.2 w u gd i).2 x hx
    obtain ⟨k, rfl⟩ : ∃ m, k = m + 1 := ⟨k - 1, by simp at hk; omega⟩
    have hr' : xs.drop (i + 1) = r := by
      have := congrArg List.tail hr
      simpa using this
    have hk' : r.length ≤ k := by simp at hk; omega
    unfold lcF2
    rw [e]
    refine Sm.bind (hg w env we d (.v x) gd er (.v c)) fun w1 env1 we1 gd1 u1 er1 => ?_
    refine Sm.bind (ht w1 env1 we1 gd1 er1) fun w2 bb bb' gd2 u2 q => ?_
    subst q
    have u02 := (u.trans u1).trans u2
    unfold kLc22
    split
    · refine Sm.bind (hi1 w2 env1 we1 gd2 (er1.up u2)) fun w3 it1 ys gd3 u3 q => ?_
      have er3 := wipe_er (er1.up (u2.trans u3)) vs1
      have uu := (u1.trans u2).trans u3
      have h1 := lc_sm (f := f) (f' := f') hg1 ht1 hf q ys 0 (turns it1 w3.S) w3 ds acc .refl gd3 er3 (cc.up uu.ext) rfl q.1
      refine Sm.bind h1 fun w4 es acc' gd4 u4 c4 => ?_
      exact lc2_sm hg ht hi1 hg1 ht1 hf hi r (i + 1) k w4 es acc' (u.trans (uu.trans u4)) gd4 (er.up (uu.trans u4)) c4 hr' hk'
    · exact lc2_sm hg ht hi1 hg1 ht1 hf hi r (i + 1) k w2 ds acc u02 gd2 (er.up (u1.trans u2)) (cc.up (u1.trans u2).ext) hr' hk'
theorem wh_sm {gc : Bool} {t : FT} {t' : PT0} {b : FS} {b' : PS0} (ht : ∀ w env we, Gd w → Er w env we → Sm (fun _ a b => a = b) w (t env w.S) (t' we w.H)) (hb : ∀ w env we, Gd w → Er w env we → Sm Flr w (b env w.S) (b' we w.H)) :
    ∀ (k : Nat) (w : Wo) (env : Env) (we : WEnv), Gd w → Er w env we → Sm Flr w (whF t b k env w.S) (whW gc t' b' k we w.H)
  | 0, _, _, _, _, _ => trivial
  | k + 1, w, env, we, gd, er => by
    unfold whF whW
    have step : ∀ w2 e2 we2, Gd w2 → Up w w2 → Er w2 e2 we2 → Sm Flr w (whF t b k e2 w2.S) (gcS gc w.H.length (whW gc t' b' k) we2 w2.H) := fun w2 e2 we2 gd2 u2 q => by
      obtain ⟨w3, u3, e3, h3⟩ := gc_sm (gc := gc) (o := whF t b k e2 w2.S) (go := whW gc t' b' k) gd gd2 u2 q fun w3 g3 u3 es we3 er3 => by
        rw [← es]
        exact wh_sm ht hb k w3 e2 we3 g3 er3
      exact h3.pre u3
    refine sm_bind2 (ht w env we gd er) fun w1 c c' gd1 u1 q => ?_
    subst q
    unfold kWhW
    split
    · refine sm_bind2 (hb w1 env we gd1 (er.up u1)) fun w2 fl fw gd2 u2 q => ?_
      have u12 := u1.trans u2
      cases fw with
      | nx we2 => cases fl with
        | nx e2 => exact step w2 e2 we2 gd2 u12 q
        | _ => exact q.elim
      | ct we2 => cases fl with
        | ct e2 => exact step w2 e2 we2 gd2 u12 q
        | _ => exact q.elim
      | bk we2 => cases fl with
        | bk e2 => exact ⟨_, w2, rfl, rfl, gd2, u12, q⟩
        | _ => exact q.elim
      | rt x => cases fl with
        | rt d => exact ⟨_, w2, rfl, rfl, gd2, u12, q⟩
        | _ => exact q.elim
    · exact ⟨_, w1, rfl, rfl, gd1, u1, er.up u1⟩
theorem sm_nox {α β : Type} {R : Wo → α → β → Prop} {o : Out α} {p : Rs β} (h : Sm R w o p) : Sm R w (nox o) (noxW p) := by
  cases p with
  | ok b H => obtain ⟨a, w', rfl, r⟩ := h; exact ⟨a, w', rfl, r⟩
  | exc y H => exact trivial
  | stk => exact trivial
end
end PV

set_option Elab.async false
set_option linter.all false
set_option maxRecDepth 100000
set_option maxHeartbeats 3999000
namespace PV
open L2 PyProof.Rows PySem PySem.Spec
section
variable {w : Wo}
/-! ### instances -/
theorem insW_some {H : Hot} {o : W} {m : Nat} {c : Str} {fs : List (Str × W)} (h : insW H o = some (m, c, fs)) : o = .r m ∧ H[m]? = some (.live (.ins c fs)) := by
  unfold insW at h
  split at h
  · split at h
    · rename_i e; cases h; exact ⟨rfl, e⟩
    · cases h
  · cases h
theorem hot_ins (g : Gd w) {o : W} {d : D} {m : Nat} {c : Str} {fs : List (Str × W)} (r : Wr w d o) (h : insW w.H o = some (m, c, fs)) : ∃ n ds, o = .r m ∧ d = .loc n ∧ w.H[m]? = some (.live (.ins c fs)) ∧ w.rho[m]? = some (.loc n) ∧ w.fps[m]? = some [n] ∧ insAt w.S d = some (n, c, ds) ∧ FsR w.Live w.S w.rho ds fs := by
  obtain ⟨rfl, e⟩ := insW_some h
  cases r with
  | r hd =>
  obtain ⟨d', fp, a1, a2, n, ds, rfl, rfl, a3, a4⟩ := g.ob m _ e
  rw [hd] at a1
  cases a1
  exact ⟨n, ds, rfl, rfl, e, hd, a2, by simp [insAt, a3], a4⟩
theorem Fr.wr {d : D} {x : W} (h : Fr w.Live w.S w.rho d x) : Wr w d x := by
  cases x with
  | v x => exact .v h
  | r j => exact .r h
  | t _ => exact h.elim
  | q _ _ => exact h.elim
theorem lookF_ok {L : Nat → Prop} {S : Sto} {rho : List D} (f : Str) : ∀ {ds : List (Str × D)} {fs : List (Str × W)}, FsR L S rho ds fs → (lookF f fs = none ∧ ds.lookup f = none) ∨ ∃ d x, lookF f fs = some x ∧ ds.lookup f = some d ∧ Fr L S rho d x
  | _, _, .nil => .inl ⟨rfl, rfl⟩
  | _, _, .cons (a := p) (b := q) ⟨e, r⟩ t => by
    obtain ⟨g, d⟩ := p
    obtain ⟨g', x⟩ := q
    have e : g = g' := e
    subst e
    unfold lookF
    by_cases hg : g = f
    · subst hg
      rw [if_pos rfl]
      exact .inr ⟨d, x, rfl, by simp [List.lookup], r⟩
    · rw [if_neg hg]
      have hb : (f == g) = false := by rw [beq_eq_false_iff_ne]; exact fun z => hg z.symm
      simp only [List.lookup, hb]
      exact lookF_ok f t
theorem sm_fld (g : Gd w) {cs : List Str} {f : Str} {o : W} {d : D} (r : Wr w d o) : Sm Wr w (kFld cs f d w.S) (fldW cs f o w.H) := by
  unfold fldW
  cases e : insW w.H o with
  | none => exact trivial
  | some p =>
    obtain ⟨m, c, fs⟩ := p
    obtain ⟨n, ds, rfl, rfl, e1, e2, e3, e4, e5⟩ := hot_ins g r e
    dsimp only
    split
    · rename_i hc
      rcases lookF_ok f e5 with ⟨q1, _⟩ | ⟨d, x, q1, q2, q3⟩
      · rw [q1]; exact trivial
      · rw [q1]
        have : kFld cs f (.loc n) w.S = .ok d w.S := by unfold kFld fldD; rw [e4]; dsimp only; rw [if_pos hc, q2]
        rw [this]
        exact .ok g q3.wr
    · exact trivial
theorem fv_ok (g : Gd w) {d : D} {x y : W} {H' : Hot} (r : Wr w d x) (e : fvW x w.H = some (y, H')) : ∃ w', w'.S = w.S ∧ w'.H = H' ∧ Gd w' ∧ Up w w' ∧ Fr w'.Live w'.S w'.rho d y := by
  unfold fvW at e
  split at e
  · cases e
    cases r with
    | v c => exact ⟨w, rfl, rfl, g, .refl, c⟩
  · cases e
    cases r with
    | r hd => exact ⟨w, rfl, rfl, g, .refl, hd⟩
  · obtain ⟨⟨v, H2⟩, e1, e2⟩ := Option.map_eq_some_iff.mp e
    cases e2
    obtain ⟨w1, a, b, _, g1, u, c⟩ := fzW_ok g r e1
    exact ⟨w1, a, b, g1, u, c⟩
theorem FsR.up {L L' : Nat → Prop} {S S' : Sto} {rho : List D} (e : Ext L S L' S') : ∀ {ds : List (Str × D)} {fs : List (Str × W)}, FsR L S rho ds fs → FsR L' S' rho ds fs
  | _, _, .nil => .nil
  | _, _, .cons (b := q) ⟨a, r⟩ t => .cons ⟨a, by
      obtain ⟨g, x⟩ := q
      cases x with
      | v x => exact Cv.up e r
      | r j => exact r
      | t _ => exact r.elim
      | q _ _ => exact r.elim⟩ (FsR.up e t)
theorem Fr.ext {L L' : Nat → Prop} {S S' : Sto} {rho : List D} (e : Ext L S L' S') {d : D} {x : W} (h : Fr L S rho d x) : Fr L' S' rho d x := by
  cases x with
  | v x => exact Cv.up e h
  | r j => exact h
  | t _ => exact h.elim
  | q _ _ => exact h.elim
theorem FsR.put {L : Nat → Prop} {S : Sto} {rho : List D} {f : Str} {d : D} {x : W} (h : Fr L S rho d x) : ∀ {ds : List (Str × D)} {fs : List (Str × W)}, FsR L S rho ds fs → FsR L S rho (putFD f d ds) (putFW f x fs)
  | _, _, .nil => .cons ⟨rfl, h⟩ .nil
  | _, _, .cons (a := p) (b := q) ⟨e, r⟩ t => by
    obtain ⟨g, d'⟩ := p
    obtain ⟨g', x'⟩ := q
    have e : g = g' := e
    subst e
    unfold putFD putFW
    by_cases hg : g = f
    · rw [if_pos hg, if_pos hg]; exact .cons ⟨rfl, h⟩ t
    · rw [if_neg hg, if_neg hg]; exact .cons ⟨rfl, r⟩ (FsR.put h t)
theorem FsR.len {L : Nat → Prop} {S : Sto} {rho : List D} : ∀ {ds : List (Str × D)} {fs : List (Str × W)}, FsR L S rho ds fs → ds.length = fs.length
  | _, _, .nil => rfl
  | _, _, .cons _ t => by rw [List.length_cons, List.length_cons, FsR.len t]
/-- a field is written -/
theorem fput_ok (g : Gd w) {cs : List Str} {f : Str} {o x : W} {d v : D} {H' : Hot} (r : Wr w d o) (hv : Fr w.Live w.S w.rho v x) (h : fputW cs f o (some (x, w.H)) = some H') : ∃ w' S', fldPut cs f d v w.S = some S' ∧ w'.S = S' ∧ w'.H = H' ∧ Gd w' ∧ Up w w' := by
  unfold fputW at h
  dsimp only at h
  cases e : insW w.H o with
  | none => rw [e] at h; cases h
  | some p =>
    rw [e] at h
    obtain ⟨m, c, fs⟩ := p
    obtain ⟨n, ds, rfl, rfl, e1, e2, e3, e4, e5⟩ := hot_ins g r e
    dsimp only at h
    split at h
    · rename_i hc
      cases h
      have hS : fldPut cs f (.loc n) v w.S = some (w.S.set n (.ins c (putFD f v ds))) := by unfold fldPut; rw [e4]; simp only []; rw [if_pos ⟨hc.1, by rw [e5.len]; exact hc.2⟩]
      refine ⟨w.put m n (.ins c (putFW f x fs)) (.ins c (putFD f v ds)), _, hS, rfl, put_H, g.put e2 e3 ⟨n, _, rfl, rfl, List.getElem?_set_self (g.lt (.inr ⟨m, [n], e3, List.mem_singleton.mpr rfl⟩)), ?_⟩, Up.put g e1 (fun _ z => nomatch z) e2 e3⟩
      exact FsR.put (hv.ext (put_ext g e2 e3)) (e5.up (put_ext g e2 e3))
    · cases h
theorem sm_gfl (g : Gd w) {cs : List Str} {f : Str} {o x : W} {d v : D} {env : Env} {we : WEnv} (r : Wr w d o) (hv : Wr w v x) (er : Er w env we) : Sm Er w (kgFl cs f v env d w.S) (gflW cs f x we o w.H) := by
  unfold gflW
  cases ef : fvW x w.H with
  | none => exact trivial
  | some p =>
    obtain ⟨y, H'⟩ := p
    obtain ⟨w1, a, rfl, g1, u1, c⟩ := fv_ok g hv ef
    cases e : fputW cs f o (some (y, w1.H)) with
    | none => exact trivial
    | some H2 =>
      obtain ⟨w2, S', q1, q2, rfl, g2, u2⟩ := fput_ok g1 (r.up u1) c e
      unfold kgFl
      rw [← a, q1, ← q2]
      exact ⟨env, w2, rfl, rfl, g2, u1.trans u2, er.up (u1.trans u2)⟩
/-! ### a tuple of targets -/
theorem er_var (g : Gd w) {env : Env} {we : WEnv} (er : Er w env we) (i : Nat) : Sm Wr w (eVar i env w.S) (ofW we[i]? w.H) := er_get g er i
theorem sm_tq (g : Gd w) (t : TQ) {d : D} {x : W} {env : Env} {we : WEnv} (r : Wr w d x) (er : Er w env we) : Sm Er w (t.d d env w.S) (tqW t x we w.H) := by
  cases t with
  | nm i => exact .ok g (er.set i r)
  | fl cs f i => exact Sm.bind (er_get g er i) fun w1 d1 x1 g1 u1 r1 => sm_gfl g1 r1 (r.up u1) (er.up u1)
  | tp is => exact sm_tp g r er
theorem sm_tqs : ∀ (ts : List TQ) (w : Wo) (ds : List D) (ws : List W) (env : Env) (we : WEnv), Gd w → Wrs w ds ws → Er w env we → Sm Er w (gAll (ts.map TQ.d) ds env w.S) (tqsW ts ws we w.H)
  | [], w, _, _, env, we, g, .nil, er => .ok g er
  | [], w, _, _, env, we, g, .cons _ _, er => trivial
  | t :: ts, w, _, _, env, we, g, .nil, er => trivial
  | t :: ts, w, _, _, env, we, g, .cons r rs, er => Sm.bind (sm_tq g t r er) fun w1 e1 we1 g1 u1 r1 => sm_tqs ts w1 _ _ e1 we1 g1 (rs.up u1) r1
theorem sm_tqF (g : Gd w) (ts : List TQ) {d : D} {x : W} {env : Env} {we : WEnv} (r : Wr w d x) (er : Er w env we) : Sm Er w (gTp (ts.map TQ.d) d env w.S) (tqsF ts we w.H (compW x)) := by
  cases e : compW x with
  | none => exact trivial
  | some ws =>
    obtain ⟨ds, rfl, hs⟩ := comp_ok r e
    exact sm_tqs ts w ds ws env we g hs er
/-! ### methods, making -/
theorem cand_ok : ∀ {l : List CandX} {c : Str} {x : CandX}, candX l c = some x → candOf (l.map CandX.d) c = some x.d
  | [], _, _, h => nomatch h
  | y :: r, c, x, h => by
    unfold candX at h
    unfold candOf
    rw [List.map_cons, List.find?_cons]
    split at h
    · rename_i hc
      cases h
      have : (y.d.c == c) = true := by rw [beq_iff_eq]; exact hc
      rw [this]
    · rename_i hc
      have : (y.d.c == c) = false := by rw [beq_eq_false_iff_ne]; exact hc
      rw [this]
      exact cand_ok h
theorem mth_ok (g : Gd w) {m : Str} {l : List CandX} {o : W} {d : D} {x : CandX} (r : Wr w d o) (h : mthX m l (insW w.H o) = some x) {C : Str → List D → Sto → Out D} {fa fk : FA} {env : Env} : kMth C m (l.map CandX.d) fa fk env d w.S = (fa env w.S).bind (kMth2 C x.d fk env d) := by
  cases e : insW w.H o with
  | none => rw [e] at h; cases h
  | some p =>
    obtain ⟨k, c, fs⟩ := p
    rw [e] at h
    obtain ⟨n, ds, rfl, rfl, e1, e2, e3, e4, e5⟩ := hot_ins g r e
    unfold mthX at h
    dsimp only at h
    unfold kMth
    rw [e4]
    dsimp only
    rcases lookF_ok m e5 with ⟨q1, q2⟩ | ⟨d, y, q1, q2, q3⟩
    · rw [q1] at h
      rw [cand_ok h]
      dsimp only
      rw [q2]
      rfl
    · rw [q1] at h; cases h
theorem sm_mkr {F0 : List D → Sto → Out D} {F0' : List W → Hot → Rs W} {c : Str} (h : FnS F0 F0') : FnS (mkRun F0 c) (mkRunW F0' c) := by
  intro w ds ws g hs
  have g1 : Gd (w.new (.ins c []) (.ins c [])) := g.new ⟨w.S.length, [], rfl, rfl, by simp, .nil⟩
  have u1 : Up w (w.new (.ins c []) (.ins c [])) := .new g
  refine Sm.pre u1 ?_
  refine Sm.bind (h _ _ _ g1 (.cons (new_r g) (hs.up u1))) fun w2 d x g2 u2 r2 => ?_
  unfold kMkW
  split
  · cases r2 with
    | v c => cases c; exact .ok g2 ((new_r g).up u2)
  · exact trivial
/-! ### op= -/
theorem a2_ok {L : Nat → Prop} {S : Sto} {o : A2} {d e : D} {x y v : V0} (h1 : Cv L S d x) (h2 : Dv S e y) (h : augV o x y = some v) : ∃ r, o.d d e S = some (r, S) ∧ Cv L S r v := by
  unfold augV at h
  split at h
  · cases h1
    cases h2
    cases o with
    | add => cases h; exact ⟨_, rfl, .int _⟩
    | sub => cases h; exact ⟨_, rfl, .int _⟩
    | mul =>
      dsimp only at h
      split at h
      · rename_i hm
        cases h
        exact ⟨_, by simp [A2.d, imulD, hm], .int _⟩
      · cases h
  · cases h
theorem getL_ok (g : Gd w) {o i : W} {d e : D} {x : V0} (r : Wr w d o) (ri : Wr w e i) (h : getLW w.H o i = some x) : ∃ z, getLD d e w.S = some z ∧ Cv w.Live w.S z x := by
  unfold getLW at h
  split at h
  · rename_i m
    obtain ⟨vs, e1, e2⟩ := Option.bind_eq_some_iff.mp h
    obtain ⟨k, e3, e4⟩ := Option.bind_eq_some_iff.mp e2
    cases r with
    | r hd =>
    obtain ⟨n, ds, rfl, hf, e5, cs⟩ := hot_lst g hd e1
    have hk := dvW_ok g ri e3
    unfold ixV at e4
    split at e4
    · rename_i q; cases q
    · rename_i q; cases q; cases hk
      obtain ⟨z, q1, q2⟩ := atI_cv cs e4
      exact ⟨z, by simp [getLD, e5, q1], q2⟩
    · rename_i q; cases q
    · rename_i q; cases q
    · cases e4
  · rename_i m j
    obtain ⟨vs, e1, e2⟩ := Option.bind_eq_some_iff.mp h
    obtain ⟨k, e3, e4⟩ := Option.bind_eq_some_iff.mp e2
    cases r with
    | q hd =>
    obtain ⟨n, ns, rows, kk, fs, _, _, _, _, _, _, _, rfl, _, b2, b3⟩ := row_val g hd e1
    have hk := dvW_ok g ri e3
    unfold ixV at e4
    split at e4
    · rename_i q; cases q
    · rename_i q; cases q; cases hk
      obtain ⟨z, q1, q2⟩ := atI_cv b3 e4
      exact ⟨z, by simp [getLD, lstAt, b2, q1], q2⟩
    · rename_i q; cases q
    · rename_i q; cases q
    · cases e4
  · cases h
theorem sm_stoL (g : Gd w) {o i : W} {z : V0} {d e v : D} {env : Env} {we : WEnv} (ho : Wr w d o) (hi : Wr w e i) (c : Cv w.Live w.S v z) (he : Er w env we) : Sm Flr w (kSA4 env d e v w.S) ((stoL o i z we w.H).bind kNxW) := by
  unfold stoL
  cases ho with
  | v _ => exact trivial
  | t _ => exact trivial
  | q hd =>
    rename_i m j
    dsimp only
    cases hs : (rowV w.H m j).bind fun vs => (dvW w.H i).bind (setQ vs z) with
    | none => exact trivial
    | some row =>
      obtain ⟨vs, e1, e2⟩ := Option.bind_eq_some_iff.mp hs
      obtain ⟨k, e3, e4⟩ := Option.bind_eq_some_iff.mp e2
      have hk := dvW_ok g hi e3
      unfold setQ at e4
      split at e4
      · rename_i zz
        split at e4
        · rename_i p ep
          cases e4
          cases hk
          obtain ⟨n, ns, rows, kk, fs, _, _, _, _, _, _, _, rfl, _, b2, b3⟩ := row_val g hd e1
          obtain ⟨k', fs', e5, e6, c2, w2, q1, q2, g2, u2, c3⟩ := sm_row (x := .non) (e := .non) g hd e1 (b3.set c p) .non
          cases e5
          have : setD (.loc kk) (.int zz) v w.S = some (w.S.set kk (.lst (fs.set p v))) := by
            simp only [setD, lstAt, b2, b3.length, ep]
          unfold kSA4
          rw [this]
          exact Sm.to g2 u2 (he.up u2) q1.symm q2.symm
        · cases e4
      · cases e4
  | r hd =>
    rename_i m
    dsimp only
    cases hs : (lstH w.H m).bind fun vs => (dvW w.H i).bind (setI vs z) with
    | none => exact trivial
    | some h' =>
      obtain ⟨vs, e1, e2⟩ := Option.bind_eq_some_iff.mp hs
      obtain ⟨k, e3, e4⟩ := Option.bind_eq_some_iff.mp e2
      have hk := dvW_ok g hi e3
      obtain ⟨n, ds, rfl, hf, e5, cs⟩ := hot_lst g hd e1
      unfold setI at e4
      split at e4
      · rename_i ii
        cases hk
        cases ej : ixN vs.length ii with
        | none => rw [ej] at e4; cases e4
        | some j =>
          rw [ej] at e4
          cases e4
          have : setD (.loc n) (.int ii) v w.S = some (w.S.set n (.lst (ds.set j v))) := by
            simp only [setD, e5]
            rw [cs.length, ej]
          unfold kSA4
          rw [this]
          exact Sm.to (R := Flr) (a := Fl.nx env) (b := Fw0.nx we) (g.putL hd hf (cs.set c j)) (Up.put g (lstH_some e1) (fun _ z => nomatch z) hd hf) (he.up (Up.put g (lstH_some e1) (fun _ z => nomatch z) hd hf)) rfl put_H.symm
      · cases e4
end
end PV

set_option Elab.async false
set_option linter.all false
set_option maxRecDepth 100000
set_option maxHeartbeats 3999000
namespace PV
open L2 PyProof.Rows PySem PySem.Spec
theorem rb_assoc {α β γ : Type} {o : Rs α} {f : α → Hot → Rs β} {h : β → Hot → Rs γ} : (o.bind f).bind h = o.bind fun a H => (f a H).bind h := by
  cases o <;> rfl
section
variable {w : Wo}
theorem wrs_ix {ds : List D} {ws : List W} (h : Wrs w ds ws) (i : Nat) : (ds[i]? = none ∧ ws[i]? = none) ∨ ∃ d x, ds[i]? = some d ∧ ws[i]? = some x ∧ Wr w d x := by
  by_cases hi : i < ws.length
  · obtain ⟨d, e, r⟩ := h.get (List.getElem?_eq_getElem hi)
    exact .inr ⟨d, _, e, List.getElem?_eq_getElem hi, r⟩
  · exact .inl ⟨List.getElem?_eq_none (by rw [h.length]; omega), List.getElem?_eq_none (by omega)⟩
theorem wrs_arr {ds zs es : List D} {ws ys vs : List W} (h1 : Wrs w ds ws) (h2 : Wrs w zs ys) (h3 : Wrs w es vs) : ∀ src : List PV.Src, Wrs w (arr ds zs es src) (arr ws ys vs src)
  | [] => .nil
  | c :: r => by
    have ih := wrs_arr h1 h2 h3 r
    have key : (pick ds zs es c = none ∧ pick ws ys vs c = none) ∨ ∃ d x, pick ds zs es c = some d ∧ pick ws ys vs c = some x ∧ Wr w d x := by
      cases c with
      | pos i => exact wrs_ix h1 i
      | kw i => exact wrs_ix h2 i
      | df i => exact wrs_ix h3 i
    unfold arr
    rcases key with ⟨a, b⟩ | ⟨d, x, a, b, q⟩
    · rw [a, b]; exact ih
    · rw [a, b]; exact .cons q ih
theorem c0_ws (dfl : List C0) : Wrs w (C0.ds dfl) (C0.ws dfl) := cvs_wrs (c0_cvs _ _ dfl)
end
section
variable {C : Fns} {C' : WFns} (hC : ∀ f, FnS (C f) (C' f))
include hC
mutual
theorem sE : ∀ (e : EX) (w : Wo) (env : Env) (we : WEnv), Gd w → Er w env we → Sm Wr w (e.d C env w.S) (e.w C' we w.H)
  | .var i, w, env, we, g, er => by unfold EX.d EX.w; exact er_get g er i
  | .c x, w, env, we, g, er => by unfold EX.d EX.w; exact .ok g (.v (c0_cv _ _ x))
  | .bin o kp a b, w, env, we, g, er => by
    unfold EX.d EX.w
    refine Sm.bind (sE a w env we g er) fun w1 d x g1 u1 r1 => ?_
    exact Sm.bind (sE b w1 env we g1 (er.up u1)) fun w2 e y g2 u2 r2 => sm_bin g2 (r1.up u2) r2
  | .neg a, w, env, we, g, er => by
    unfold EX.d EX.w
    refine Sm.bind (sE a w env we g er) fun w1 d x g1 u1 r1 => ?_
    refine sm_ofV g1 fun v hv => ?_
    obtain ⟨y, e1, e2⟩ := Option.bind_eq_some_iff.mp hv
    unfold negW at e2
    split at e2
    · cases e2
      cases dvW_ok g1 r1 e1
      exact ⟨_, rfl, .int _⟩
    · cases e2
  | .tup as, w, env, we, g, er => by
    unfold EX.d EX.w
    exact Sm.bind (sA as w env we g er) fun w1 d x g1 u1 r1 => .ok g1 (mkT_ok r1)
  | .tupS as, w, env, we, g, er => by
    unfold EX.d EX.w
    refine Sm.bind (sA as w env we g er) fun w1 d x g1 u1 r1 => ?_
    unfold kTupS kTupSW
    rw [r1.length]
    split
    · exact .ok g1 (mkT_ok r1)
    · exact trivial
  | .lst kp as, w, env, we, g, er => by
    unfold EX.d EX.w
    exact Sm.bind (sA as w env we g er) fun w1 d x g1 u1 r1 => sm_lst g1 r1
  | .lstS kp as, w, env, we, g, er => by
    unfold EX.d EX.w
    refine Sm.bind (sA as w env we g er) fun w1 d x g1 u1 r1 => ?_
    unfold kLstS kLstSW
    rw [r1.length]
    split
    · exact sm_lst g1 r1
    · exact trivial
  | .cb o kp as, w, env, we, g, er => by
    unfold EX.d EX.w
    exact Sm.bind (sA as w env we g er) fun w1 d x g1 u1 r1 => sm_cb g1 r1
  | .ifx t a b, w, env, we, g, er => by
    unfold EX.d EX.w
    refine Sm.bind (sT t w env we g er) fun w1 d x g1 u1 r1 => ?_
    subst r1
    unfold kIfW
    split
    · exact sE a w1 env we g1 (er.up u1)
    · exact sE b w1 env we g1 (er.up u1)
  | .and a b, w, env, we, g, er => by
    unfold EX.d EX.w
    refine Sm.bind (sE a w env we g er) fun w1 d x g1 u1 r1 => ?_
    have q := sm_tru (R := Wr) g1 (k := fun z => if z = true then b.d C env w1.S else .ok d w1.S) (k' := kAndW2 (b.w C') we x) r1 fun z => by
      unfold kAndW2
      split
      · exact sE b w1 env we g1 (er.up u1)
      · exact .ok g1 r1
    refine (show Sm Wr w1 _ _ from ?_)
    unfold kAndW
    refine Eq.mp (congrArg (fun o => Sm Wr w1 o _) ?_) q
    split <;> rename_i z hz <;> simp [hz]
    cases z <;> rfl
  | .or a b, w, env, we, g, er => by
    unfold EX.d EX.w
    refine Sm.bind (sE a w env we g er) fun w1 d x g1 u1 r1 => ?_
    have q := sm_tru (R := Wr) g1 (k := fun z => if z = true then .ok d w1.S else b.d C env w1.S) (k' := kOrW2 (b.w C') we x) r1 fun z => by
      unfold kOrW2
      split
      · exact .ok g1 r1
      · exact sE b w1 env we g1 (er.up u1)
    refine (show Sm Wr w1 _ _ from ?_)
    unfold kOrW
    refine Eq.mp (congrArg (fun o => Sm Wr w1 o _) ?_) q
    split <;> rename_i z hz <;> simp [hz]
    cases z <;> rfl
  | .not a, w, env, we, g, er => by
    unfold EX.d EX.w
    refine Sm.bind (sE a w env we g er) fun w1 d x g1 u1 r1 => ?_
    exact sm_tru (R := Wr) g1 (k := fun z => .ok (.bl (!z)) w1.S) (k' := kNotW2) r1 fun z => .ok g1 (.v (.bl _))
  | .ch o o' a b c, w, env, we, g, er => by
    unfold EX.d EX.w
    refine Sm.bind (sE a w env we g er) fun w1 d x g1 u1 r1 => ?_
    refine Sm.bind (sE b w1 env we g1 (er.up u1)) fun w2 e y g2 u2 r2 => ?_
    unfold kChW1
    rw [rb_assoc]
    refine Sm.bind (sm_sc g2 (r1.up u2) r2) fun w3 z z' g3 u3 r3 => ?_
    have er3 := er.up ((u1.trans u2).trans u3)
    cases r3 with
    | v h =>
      cases h with
      | bl q =>
        cases q with
        | true =>
          show Sm Wr w3 _ ((c.w C' we w3.H).bind (kChW3 o' y))
          exact Sm.bind (sE c w3 env we g3 er3) fun w4 f v g4 u4 r4 => sm_sc g4 ((r2.up u3).up u4) r4
        | false => exact .ok g3 (.v (.bl _))
      | _ => exact trivial
    | _ => exact trivial
  | .sl kp a lo hi, w, env, we, g, er => by
    unfold EX.d EX.w
    refine Sm.bind (sE a w env we g er) fun w1 d x g1 u1 r1 => ?_
    refine Sm.bind (sO lo w1 env we g1 (er.up u1)) fun w2 l l' g2 u2 r2 => ?_
    refine Sm.bind (sO hi w2 env we g2 ((er.up u1).up u2)) fun w3 h h' g3 u3 r3 => ?_
    subst r2 r3
    refine sm_ofK g3 fun v hv => ?_
    obtain ⟨y, e1, e2⟩ := Option.bind_eq_some_iff.mp hv
    exact sl_ok (bvW_ok g3 ((r1.up u2).up u3) e1) e2
  | .rev kp a k, w, env, we, g, er => by
    unfold EX.d EX.w
    refine Sm.bind (sE a w env we g er) fun w1 d x g1 u1 r1 => ?_
    refine Sm.bind (sE k w1 env we g1 (er.up u1)) fun w2 e y g2 u2 r2 => ?_
    unfold kRevW2
    split
    · rename_i i
      cases r2 with
      | v h =>
      cases h
      show Sm Wr w2 (if i = -1 then lift (revD d w2.S) else .stk) (if i = -1 then ofK kp ((bvW w2.H x).bind revV) w2.H else .stk)
      by_cases hi : i = -1
      · rw [if_pos hi, if_pos hi]
        refine sm_ofK g2 fun v hv => ?_
        obtain ⟨y, e1, e2⟩ := Option.bind_eq_some_iff.mp hv
        exact rev_ok (bvW_ok g2 (r1.up u2) e1) e2
      · rw [if_neg hi, if_neg hi]; exact trivial
    · exact trivial
  | .lc kp vs it gx t e, w, env, we, g, er => by
    unfold EX.d EX.w
    refine Sm.bind (sI it w env we g er) fun w1 i xs g1 u1 r1 => ?_
    have q := sm_nox (lc_sm (sG gx) (sT t) (sE e) r1 xs 0 (turns i w1.S) w1 [] [] .refl g1 (wipe_er (er.up u1) vs) .nil rfl r1.1)
    exact Sm.bind q fun w2 ds ys g2 u2 c => sm_put g2 c
  | .call kp f src dfl as ks, w, env, we, g, er => by
    unfold EX.d EX.w
    refine Sm.bind (sA as w env we g er) fun w1 d x g1 u1 r1 => ?_
    refine Sm.bind (sA ks w1 env we g1 (er.up u1)) fun w2 e y g2 u2 r2 => ?_
    exact sm_call g2 (hC f) (wrs_arr (r1.up u2) r2 (c0_ws dfl) src)
  | .m o a as, w, env, we, g, er => by
    unfold EX.d EX.w
    refine Sm.bind (sE a w env we g er) fun w1 d x g1 u1 r1 => ?_
    cases r1 with
    | v _ => exact trivial
    | t _ => exact trivial
    | q hd =>
      rename_i m i
      unfold kMW
      dsimp only
      cases hl : rowV w1.H m i with
      | none => exact trivial
      | some vs =>
        obtain ⟨n, ns, rows, kk, fs, _, _, _, _, _, _, _, rfl, _, b2, b3⟩ := row_val g1 hd hl
        have e1 : lstAt w1.S kk = some fs := by simp [lstAt, b2]
        simp only [e1]
        exact Sm.bind (sA as w1 env we g1 (er.up u1)) fun w2 d x g2 u2 r2 => sm_q g2 (u2.row _ _ _ hd) r2
    | r hd =>
      rename_i m
      unfold kMW
      dsimp only
      cases hl : lstH w1.H m with
      | none =>
        dsimp only
        cases he : w1.H[m]? with
        | none => exact trivial
        | some e => cases e with
          | live h => cases h with
            | ll rows =>
              obtain ⟨d', fp, a1, a2, n, ns, rfl, rfl, a3, a4, a5⟩ := g1.ob m _ he
              rw [hd] at a1
              cases a1
              have e1 : lstAt w1.S n = some (ns.map .loc) := by simp [lstAt, a4]
              simp only [e1]
              exact Sm.bind (sA as w1 env we g1 (er.up u1)) fun w2 d x g2 u2 r2 => sm_m g2 (u2.rho _ _ hd) r2
            | _ => exact trivial
          | _ => exact trivial
      | some vs =>
        obtain ⟨n, ds, rfl, hf, e1, cs⟩ := hot_lst g1 hd hl
        simp only [e1]
        exact Sm.bind (sA as w1 env we g1 (er.up u1)) fun w2 d x g2 u2 r2 => sm_m g2 (u2.rho _ _ hd) r2
  | .dn, w, env, we, g, er => by
    unfold EX.d EX.w
    exact Sm.to (w' := w.new (.dk []) (.dk [])) (g.new ⟨w.S.length, [], rfl, rfl, by simp, .nil⟩) (.new g) (new_r g) rfl rfl
  | .fld cs f a, w, env, we, g, er => by
    unfold EX.d EX.w
    exact Sm.bind (sE a w env we g er) fun w1 d x g1 u1 r1 => sm_fld g1 r1
  | .mth kp m l a as ks, w, env, we, g, er => by
    unfold EX.d EX.w
    refine Sm.bind (sE a w env we g er) fun w1 d x g1 u1 r1 => ?_
    unfold kMthW
    cases hx : mthX m l (insW w1.H x) with
    | none => exact trivial
    | some y =>
      rw [mth_ok g1 r1 hx]
      refine Sm.bind (sA as w1 env we g1 (er.up u1)) fun w2 ds ws g2 u2 r2 => ?_
      refine Sm.bind (sA ks w2 env we g2 (er.up (u1.trans u2))) fun w3 zs ys g3 u3 r3 => ?_
      exact sm_call g3 (hC y.g) (wrs_arr (.cons (r1.up (u2.trans u3)) (r2.up u3)) r3 (c0_ws y.dfl) y.src)
  | .mk kp f as, w, env, we, g, er => by
    unfold EX.d EX.w
    exact Sm.bind (sA as w env we g er) fun w1 d x g1 u1 r1 => sm_call g1 (hC f) r1
  | .lc2 kp vs it gx t it1 vs1 gx1 t1 e, w, env, we, g, er => by
    unfold EX.d EX.w
    refine Sm.bind (sI it w env we g er) fun w1 i xs g1 u1 r1 => ?_
    have q := sm_nox (lc2_sm (vs1 := vs1) (sG gx) (sT t) (sI it1) (sG gx1) (sT t1) (sE e) r1 xs 0 (turns i w1.S) w1 [] [] .refl g1 (wipe_er (er.up u1) vs) .nil rfl r1.1)
    exact Sm.bind q fun w2 ds ys g2 u2 c => sm_put g2 c
theorem sA : ∀ (e : AX) (w : Wo) (env : Env) (we : WEnv), Gd w → Er w env we → Sm Wrs w (e.d C env w.S) (e.w C' we w.H)
  | .nil, w, env, we, g, er => by unfold AX.d AX.w; exact .ok g .nil
  | .cons e r, w, env, we, g, er => by
    unfold AX.d AX.w
    refine Sm.bind (sE e w env we g er) fun w1 d x g1 u1 r1 => ?_
    exact Sm.bind (sA r w1 env we g1 (er.up u1)) fun w2 e y g2 u2 r2 => .ok g2 (.cons (r1.up u2) r2)
  | .star e r, w, env, we, g, er => by
    unfold AX.d AX.w
    refine Sm.bind (sE e w env we g er) fun w1 d x g1 u1 r1 => ?_
    unfold kStarW
    cases hx : (bvW w1.H x).bind seqV with
    | none => exact trivial
    | some xs =>
      obtain ⟨y, e1, e2⟩ := Option.bind_eq_some_iff.mp hx
      obtain ⟨ds, e3, c⟩ := bv_seq (bvW_ok g1 r1 e1) e2
      unfold kStar
      simp only [e3]
      exact Sm.bind (sA r w1 env we g1 (er.up u1)) fun w2 e y g2 u2 r2 => .ok g2 ((cvs_wrs (c.up u2.ext)).append r2)
theorem sT : ∀ (e : TX) (w : Wo) (env : Env) (we : WEnv), Gd w → Er w env we → Sm (fun _ a b => a = b) w (e.d C env w.S) (e.w C' we w.H)
  | .val e, w, env, we, g, er => by
    unfold TX.d TX.w
    refine Sm.bind (sE e w env we g er) fun w1 d x g1 u1 r1 => ?_
    unfold kValW
    cases hx : truW w1.H x with
    | none => exact trivial
    | some b => rw [tru_ok g1 r1 hx]; exact .ok g1 rfl
  | .not t, w, env, we, g, er => by
    unfold TX.d TX.w
    exact Sm.bind (sT t w env we g er) fun w1 d x g1 u1 r1 => .ok g1 (by rw [r1])
  | .and t u, w, env, we, g, er => by
    unfold TX.d TX.w
    refine Sm.bind (sT t w env we g er) fun w1 d x g1 u1 r1 => ?_
    subst r1
    unfold kTandW
    split
    · exact sT u w1 env we g1 (er.up u1)
    · exact .ok g1 rfl
  | .or t u, w, env, we, g, er => by
    unfold TX.d TX.w
    refine Sm.bind (sT t w env we g er) fun w1 d x g1 u1 r1 => ?_
    subst r1
    unfold kTorW
    split
    · exact .ok g1 rfl
    · exact sT u w1 env we g1 (er.up u1)
  | .tb e, w, env, we, g, er => by
    unfold TX.d TX.w
    refine Sm.bind (sE e w env we g er) fun w1 d x g1 u1 r1 => ?_
    cases r1 with
    | v h => cases h with
      | bl b => exact .ok g1 rfl
      | _ => exact trivial
    | _ => exact trivial
  | .yes, w, env, we, g, er => by unfold TX.d TX.w; exact .ok g rfl
theorem sO : ∀ (e : OX) (w : Wo) (env : Env) (we : WEnv), Gd w → Er w env we → Sm (fun _ a b => a = b) w (e.d C env w.S) (e.w C' we w.H)
  | .none, w, env, we, g, er => by unfold OX.d OX.w; exact .ok g rfl
  | .some e, w, env, we, g, er => by
    unfold OX.d OX.w
    refine Sm.bind (sE e w env we g er) fun w1 d x g1 u1 r1 => ?_
    cases r1 with
    | v h => cases h with
      | int b => exact .ok g1 rfl
      | _ => exact trivial
    | _ => exact trivial
theorem sI : ∀ (e : IX) (w : Wo) (env : Env) (we : WEnv), Gd w → Er w env we → Sm Ir' w (e.d C env w.S) (e.w C' we w.H)
  | .seq e, w, env, we, g, er => by
    unfold IX.d IX.w
    exact Sm.bind (sE e w env we g er) fun w1 d x g1 u1 r1 => (sm_seqIt g1 r1).imp fun _ _ _ _ _ q => q.wk
  | .rg as, w, env, we, g, er => by
    unfold IX.d IX.w
    exact Sm.bind (sA as w env we g er) fun w1 d x g1 u1 r1 => (sm_rgIt g1 r1).imp fun _ _ _ _ _ q => q.wk
  | .en as, w, env, we, g, er => by
    unfold IX.d IX.w
    exact Sm.bind (sA as w env we g er) fun w1 d x g1 u1 r1 => (sm_enIt g1 r1).imp fun _ _ _ _ _ q => q.wk
  | .zp as, w, env, we, g, er => by
    unfold IX.d IX.w
    exact Sm.bind (sA as w env we g er) fun w1 d x g1 u1 r1 => sm_zpIt g1 r1
theorem sG : ∀ (e : GX) (w : Wo) (env : Env) (we : WEnv) (d : D) (x : W), Gd w → Er w env we → Wr w d x → Sm Er w (e.d C d env w.S) (e.w C' x we w.H)
  | .nm i, w, env, we, d, x, g, er, r => by unfold GX.d GX.w; exact .ok g (er.set i r)
  | .tp is, w, env, we, d, x, g, er, r => by unfold GX.d GX.w; exact sm_tp g r er
  | .sb o i, w, env, we, d, x, g, er, r => by
    unfold GX.d GX.w
    refine Sm.bind (sE o w env we g er) fun w1 d1 x1 g1 u1 r1 => ?_
    refine Sm.bind (sE i w1 env we g1 (er.up u1)) fun w2 d2 x2 g2 u2 r2 => ?_
    exact sm_sto g2 (r1.up u2) r2 (r.up (u1.trans u2)) (er.up (u1.trans u2))
  | .fl cs f i, w, env, we, d, x, g, er, r => by
    unfold GX.d GX.w
    exact Sm.bind (er_get g er i) fun w1 d1 x1 g1 u1 r1 => sm_gfl g1 r1 (r.up u1) (er.up u1)
  | .tq ts, w, env, we, d, x, g, er, r => by
    unfold GX.d GX.w
    exact sm_tqF g ts r er
end
theorem sS : ∀ (e : SX) (w : Wo) (env : Env) (we : WEnv), Gd w → Er w env we → Sm Flr w (e.d C env w.S) (e.w C' we w.H)
  | .nil, w, env, we, g, er => by unfold SX.d SX.w; exact .ok g er
  | .seq a b, w, env, we, g, er => by
    unfold SX.d SX.w
    refine Sm.bind (sS a w env we g er) fun w1 fl fw g1 u1 r1 => ?_
    cases fw with
    | nx we2 => cases fl with
      | nx e2 => exact sS b w1 e2 we2 g1 r1
      | _ => exact r1.elim
    | ct we2 => cases fl with
      | ct e2 => exact .ok g1 r1
      | _ => exact r1.elim
    | bk we2 => cases fl with
      | bk e2 => exact .ok g1 r1
      | _ => exact r1.elim
    | rt x => cases fl with
      | rt d => exact .ok g1 r1
      | _ => exact r1.elim
  | .brk, w, env, we, g, er => by unfold SX.d SX.w; exact .ok g er
  | .cnt, w, env, we, g, er => by unfold SX.d SX.w; exact .ok g er
  | .expr e, w, env, we, g, er => by
    unfold SX.d SX.w
    exact Sm.bind (sE hC e w env we g er) fun w1 d x g1 u1 r1 => .ok g1 (er.up u1)
  | .ret e, w, env, we, g, er => by
    unfold SX.d SX.w
    exact Sm.bind (sE hC e w env we g er) fun w1 d x g1 u1 r1 => .ok g1 r1
  | .retN, w, env, we, g, er => by unfold SX.d SX.w; exact .ok g (.v .non)
  | .if_ t a b, w, env, we, g, er => by
    unfold SX.d SX.w
    refine Sm.bind (sT hC t w env we g er) fun w1 d x g1 u1 r1 => ?_
    subst r1
    unfold kIfW
    split
    · exact sS a w1 env we g1 (er.up u1)
    · exact sS b w1 env we g1 (er.up u1)
  | .asg e t, w, env, we, g, er => by
    unfold SX.d SX.w
    refine Sm.bind (sE hC e w env we g er) fun w1 d x g1 u1 r1 => ?_
    exact Sm.bind (sG hC t w1 env we d x g1 (er.up u1) r1) fun w2 e2 we2 g2 u2 r2 => .ok g2 r2
  | .par i j as, w, env, we, g, er => by
    unfold SX.d SX.w
    refine Sm.bind (sA hC as w env we g er) fun w1 ds ws g1 u1 r1 => ?_
    have er := er.up u1
    unfold kParW
    cases r1 with
    | nil => exact trivial
    | cons a r => cases r with
      | nil => exact trivial
      | cons b r => cases r with
        | nil => exact .ok g1 ((er.set i a).set j b)
        | cons c r => exact trivial
  | .par3 i j l as, w, env, we, g, er => by
    unfold SX.d SX.w
    refine Sm.bind (sA hC as w env we g er) fun w1 ds ws g1 u1 r1 => ?_
    have er := er.up u1
    unfold kParW
    cases r1 with
    | nil => exact trivial
    | cons a r => cases r with
      | nil => exact trivial
      | cons b r => cases r with
        | nil => exact trivial
        | cons c r => cases r with
          | nil => exact .ok g1 (((er.set i a).set j b).set l c)
          | cons c r => exact trivial
  | .aug i pl e, w, env, we, g, er => by
    unfold SX.d SX.w
    cases hx : we[i]? with
    | none => exact trivial
    | some o =>
      cases o with
      | none => exact trivial
      | some x =>
        obtain ⟨d, e1, r⟩ := er.val i x hx
        unfold sAug
        simp only [e1]
        show Sm Flr w _ ((e.w C' we w.H).bind (kAugW2 i pl we x))
        refine Sm.bind (sE hC e w env we g er) fun w1 d2 y g1 u1 r1 => ?_
        refine Sm.bind (sm_ofV g1 (p := pl.d d d2 w1.S) fun v hv => ?_) fun w2 z z' g2 u2 r2 => .ok g2 ((er.up (u1.trans u2)).set i r2)
        obtain ⟨a, b, q1, q2, q3⟩ := two_some hv
        unfold augV at q3
        split at q3
        · cases dvW_ok g1 (r.up u1) q1
          cases dvW_ok g1 r1 q2
          cases pl with
          | add => cases q3; exact ⟨_, rfl, .int _⟩
          | sub => cases q3; exact ⟨_, rfl, .int _⟩
          | mul =>
            dsimp only at q3
            split at q3
            · rename_i hm
              cases q3
              exact ⟨_, by simp [A2.d, imulD, hm], .int _⟩
            · cases q3
        · cases q3
  | .saug o a i e, w, env, we, g, er => by
    unfold SX.d SX.w
    refine Sm.bind (sE hC a w env we g er) fun w1 d x g1 u1 r1 => ?_
    refine Sm.bind (sE hC i w1 env we g1 (er.up u1)) fun w2 d2 x2 g2 u2 r2 => ?_
    unfold kSA1W
    cases hx : getLW w2.H x x2 with
    | none => exact trivial
    | some y =>
      obtain ⟨z, q1, q2⟩ := getL_ok g2 (r1.up u2) r2 hx
      unfold kSA2
      simp only [q1]
      refine Sm.bind (sE hC e w2 env we g2 (er.up (u1.trans u2))) fun w3 d3 x3 g3 u3 r3 => ?_
      unfold kSA3W
      cases hv : (dvW w3.H x3).bind (augV o y) with
      | none => exact trivial
      | some v =>
        obtain ⟨b, q3, q4⟩ := Option.bind_eq_some_iff.mp hv
        obtain ⟨r, q5, q6⟩ := a2_ok (q2.up u3.ext) (dvW_ok g3 r3 q3) q4
        unfold kSA3
        rw [q5]
        exact sm_stoL g3 (r1.up (u2.trans u3)) (r2.up u3) q6 (er.up ((u1.trans u2).trans u3))
  | .faug cs f o a e, w, env, we, g, er => by
    unfold SX.d SX.w
    refine Sm.bind (sE hC a w env we g er) fun w1 d x g1 u1 r1 => ?_
    unfold kFA0W
    have q := sm_fld (cs := cs) (f := f) g1 r1
    revert q
    cases hf : fldW cs f x w1.H with
    | stk => exact fun _ => trivial
    | exc y H' => unfold fldW ofW at hf; split at hf <;> (try split at hf) <;> (try split at hf) <;> cases hf
    | ok y H' =>
      rintro ⟨z, w2, q1, q2, g2, u2, r2⟩
      have hH : H' = w1.H := by unfold fldW ofW at hf; split at hf <;> (try split at hf) <;> (try split at hf) <;> cases hf; rfl
      have hS : w2.S = w1.S := by
        unfold kFld at q1
        split at q1
        · injection q1 with _ b; exact b.symm
        · cases q1
      have hfd : fldD cs f d w1.S = some z := by
        unfold kFld at q1
        split at q1
        · rename_i e; injection q1 with b _; rw [← b]; exact e
        · cases q1
      cases y with
      | r _ => exact trivial
      | t _ => exact trivial
      | q _ _ => exact trivial
      | v y =>
      cases r2 with
      | v r2 =>
      have hc : clsX w1.H x = clsAt w1.S d := by
        unfold fldW at hf
        cases e : insW w1.H x with
        | none => rw [e] at hf; cases hf
        | some p =>
          obtain ⟨m, c, fs⟩ := p
          obtain ⟨n, ds, rfl, rfl, e1, e2, e3, e4, e5⟩ := hot_ins g1 r1 e
          unfold clsX clsAt
          rw [e, e4]
      unfold kFA1
      simp only [hfd]
      refine Sm.pre u2 ?_
      subst hH
      show Sm Flr w2 ((e.d C env w1.S).bind _) ((e.w C' we w1.H).bind _)
      rw [← q2, ← hS]
      refine Sm.bind (sE hC e w2 env we g2 (er.up (u1.trans u2))) fun w3 d3 x3 g3 u3 r3 => ?_
      unfold kFA2W
      rw [q2, hS, hc]
      cases hv : (dvW w3.H x3).bind (augV o y) with
      | none => exact trivial
      | some v =>
        obtain ⟨b, q3, q4⟩ := Option.bind_eq_some_iff.mp hv
        obtain ⟨r, q5, q6⟩ := a2_ok (r2.up u3.ext) (dvW_ok g3 r3 q3) q4
        unfold kFA2
        rw [q5]
        show Sm Flr w3 (kFA3 _ f env d r w3.S) (ofH (.nx we) (fputW _ f x (some (.v v, w3.H))))
        cases hp : fputW [clsAt w1.S d] f x (some (.v v, w3.H)) with
        | none => exact trivial
        | some H2 =>
          obtain ⟨w4, S', p1, p2, rfl, g4, u4⟩ := fput_ok (x := .v v) g3 (r1.up (u2.trans u3)) q6 hp
          unfold kFA3
          rw [p1, ← p2]
          exact ⟨.nx env, w4, rfl, rfl, g4, u4, er.up (((u1.trans u2).trans u3).trans u4)⟩
  | .for_ gc it t b, w, env, we, g, er => by
    unfold SX.d SX.w
    refine Sm.bind (sI hC it w env we g er) fun w1 i xs g1 u1 r1 => ?_
    exact for_sm (sG hC t) (sS b) r1 xs 0 _ w1 env we .refl g1 (er.up u1) rfl r1.1
  | .while_ gc t b, w, env, we, g, er => by
    unfold SX.d SX.w
    exact wh_sm (sT hC t) (sS b) _ w env we g er
  | .stk, w, env, we, g, er => trivial
end

/-! ### the table -/
structure EntX where
  e : Ent
  x : SX
def entX (T : List EntX) (f : Str) : Option EntX := T.find? fun e => e.e.g == f
def runV (T : List EntX) : Nat → WFns
  | 0 => fun _ _ _ => .stk
  | k + 1 => fun f ws H => match entX T f with
    | some e => (match e.e.kd with
      | .mk _ init => mkRunW (runV T k init) f ws H
      | _ => runW e.e.d.N.length e.e.d.ps.length (e.x.w (runV T k)) ws H)
    | none => .stk
theorem runV_fn {T : List EntX} {k : Nat} {f : Str} {e : EntX} (h : entX T f = some e) (hk : e.e.kd.isMk = false) (ws : List W) (H : Hot) : runV T (k + 1) f ws H = runW e.e.d.N.length e.e.d.ps.length (e.x.w (runV T k)) ws H := by
  show (match entX T f with
    | some e => (match e.e.kd with
      | .mk _ init => mkRunW (runV T k init) f ws H
      | _ => runW e.e.d.N.length e.e.d.ps.length (e.x.w (runV T k)) ws H)
    | none => .stk) = _
  rw [h]
  dsimp only
  cases q : e.e.kd with
  | mk _ _ => rw [q] at hk; cases hk
  | fn => rfl
  | mt _ _ => rfl
theorem runV_mk {T : List EntX} {k : Nat} {f i : Str} {fl : List Str} {e : EntX} (h : entX T f = some e) (hk : e.e.kd = .mk fl i) (ws : List W) (H : Hot) : runV T (k + 1) f ws H = mkRunW (runV T k i) f ws H := by
  show (match entX T f with
    | some e => (match e.e.kd with
      | .mk _ init => mkRunW (runV T k init) f ws H
      | _ => runW e.e.d.N.length e.e.d.ps.length (e.x.w (runV T k)) ws H)
    | none => .stk) = _
  rw [h]
  dsimp only
  rw [hk]
theorem find_map (f : Str) : ∀ T : List EntX, entOf (T.map (·.e)) f = (entX T f).map (·.e)
  | [] => rfl
  | e :: T => by
    unfold entOf entX
    rw [List.map_cons, List.find?_cons, List.find?_cons]
    cases q : e.e.g == f with
    | true => rfl
    | false => exact find_map f T
theorem run_sm {T : List EntX} (hT : ∀ e ∈ T, ∀ C, e.e.b C = e.x.d C) : ∀ (k : Nat) (f : Str), FnS (runT (T.map (·.e)) k f) (runV T k f)
  | 0, f => fun _ _ _ _ _ => trivial
  | k + 1, f => by
    intro w ds ws g hs
    unfold runV
    cases h : entX T f with
    | none => exact trivial
    | some e =>
      have h2 : entOf (T.map (·.e)) f = some e.e := by rw [find_map, h]; rfl
      unfold runT
      rw [h2]
      dsimp only
      cases hk : e.e.kd with
      | mk fl init => exact sm_mkr (run_sm hT k init) w ds ws g hs
      | fn => dsimp only; rw [hT e (List.mem_of_find?_eq_some h)]; exact sm_run (sS (run_sm hT k) e.x) w ds ws g hs
      | mt c m => dsimp only; rw [hT e (List.mem_of_find?_eq_some h)]; exact sm_run (sS (run_sm hT k) e.x) w ds ws g hs
/-- THE END: what the values tell, the store tells -/
theorem run_true {T : List EntX} (hT : ∀ e ∈ T, ∀ C, e.e.b C = e.x.d C) {k : Nat} {f : Str} {ns : List Int} {H : Hot} (h : runV T k f [.v (.fz (ns.map V0.int))] [] = .ok (.v (.bl true)) H) : ∃ S', runT (T.map (·.e)) k f [.fz (ns.map D.int)] [] = .ok (.bl true) S' := by
  let w : Wo := { out := fun _ => False, S := [], H := [], rho := [], fps := [] }
  have g : Gd w := ⟨rfl, rfl, fun _ z => z.elim, fun m fp n e => by simp [w] at e, fun m m' fp fp' n e => by simp [w] at e, fun m e h => by simp [w] at h⟩
  have c : ∀ ns : List Int, Cvs w.Live w.S (ns.map D.int) (ns.map V0.int) := fun ns => by
    induction ns with
    | nil => exact .nil
    | cons n ns ih => exact .cons (.int n) ih
  have q := run_sm hT k f w [.fz (ns.map D.int)] [.v (.fz (ns.map V0.int))] g (.cons (.v (.fz (c ns))) .nil)
  have h' : runV T k f [.v (.fz (ns.map V0.int))] w.H = .ok (.v (.bl true)) H := h
  rw [h'] at q
  obtain ⟨a, w', e, _, _, _, r⟩ := q
  cases r with
  | v r => cases r; exact ⟨_, e⟩
abbrev FuelV := Nat → WFns
/-- a def stands in the table -/
def HasV (R : FuelV) (f : Str) (nN np : Nat) (x : SX) : Prop := ∀ k ws H, R (k + 1) f ws H = runW nN np (x.w (R k)) ws H
/-- a class stands in the table -/
def HasK (R : FuelV) (f init : Str) : Prop := ∀ k ws H, R (k + 1) f ws H = mkRunW (R k init) f ws H
end PV

set_option Elab.async false
set_option linter.all false
set_option maxRecDepth 100000
set_option maxHeartbeats 3999000
namespace PV
open L2 PyProof.Rows PySem PySem.Spec

/-! ### runs that end well -/
def OkW {α : Type} (o : Rs α) (Q : α → Hot → Prop) : Prop := match o with
  | .ok a H => Q a H
  | _ => False
def ThW {α β : Type} (f : α → Hot → Rs β) (Q : β → Hot → Prop) (a : α) (H : Hot) : Prop := OkW (f a H) Q
section
variable {α β : Type} {a : α} {H : Hot} {o o' : Rs α} {f : α → Hot → Rs β}
@[simp] theorem thw {Q : β → Hot → Prop} : ThW f Q a H ↔ OkW (f a H) Q := by exact Iff.rfl
@[simp] theorem okw_ok {Q : α → Hot → Prop} : OkW (.ok a H) Q ↔ Q a H := by exact Iff.rfl
@[simp] theorem okw_stk {Q : α → Hot → Prop} : OkW (.stk : Rs α) Q ↔ False := by exact Iff.rfl
@[simp] theorem okw_bind {Q : β → Hot → Prop} : OkW (o.bind f) Q ↔ OkW o (ThW f Q) := by
  cases o <;> exact Iff.rfl
theorem OkW.mono {Q Q' : α → Hot → Prop} (h : OkW o Q) (hm : ∀ a H, Q a H → Q' a H) : OkW o Q' := by
  cases o with
  | ok a H => exact hm a H h
  | _ => exact h
theorem OkW.ex {Q : α → Hot → Prop} (h : OkW o Q) : ∃ a H, o = .ok a H ∧ Q a H := by
  cases o with
  | ok a H => exact ⟨a, H, rfl, h⟩
  | _ => exact False.elim h
theorem OkW.of {Q : α → Hot → Prop} (h : o = .ok a H) (q : Q a H) : OkW o Q := by rw [h]; exact q
@[simp] theorem okw_ite {c : Prop} [Decidable c] {Q : α → Hot → Prop} : OkW (if c then o else o') Q ↔ (if c then OkW o Q else OkW o' Q) := by
  split <;> exact Iff.rfl
@[simp] theorem rb_ite {c : Prop} [Decidable c] : (if c then o else o').bind f = if c then o.bind f else o'.bind f := by
  split <;> rfl
theorem okw_abs {Q : α → Hot → Prop} (h : ∀ Q' : α → Hot → Prop, (∀ a H, Q a H → Q' a H) → OkW o Q') : OkW o Q := h Q fun _ _ h => h
theorem okw_eq {Q : α → Hot → Prop} {r : Rs α} (h : o = r) : OkW o Q ↔ OkW r Q := by rw [h]
end

/-! ### evaluation, step by step -/
section
variable {C : WFns} {env : WEnv} {H : Hot} {i j : Nat} {x y z : V0} {a b c w : W} {ws vs : List W} {kp : Bool} {o o' : B2} {e e1 e2 e3 : EX} {as bs : AX} {t u : TX} {s s1 s2 : SX} {g : GX} {it : IX} {lo hi : OX}
@[simp] theorem w_var : EX.w C (.var i) env H = ofW env[i]? H := by exact rfl
@[simp] theorem w_c {k : C0} : EX.w C (.c k) env H = .ok (.v k.v) H := by exact rfl
@[simp] theorem w_bin : EX.w C (.bin o kp e1 e2) env H = (e1.w C env H).bind (kBinW o kp (e2.w C) env) := by exact rfl
@[simp] theorem w_neg : EX.w C (.neg e) env H = (e.w C env H).bind kNegW := by exact rfl
@[simp] theorem w_tup : EX.w C (.tup as) env H = (as.w C env H).bind kTupW := by exact rfl
@[simp] theorem w_tupS : EX.w C (.tupS as) env H = (as.w C env H).bind kTupSW := by exact rfl
@[simp] theorem w_lst : EX.w C (.lst kp as) env H = (as.w C env H).bind (kLstW kp) := by exact rfl
@[simp] theorem w_lstS : EX.w C (.lstS kp as) env H = (as.w C env H).bind (kLstSW kp) := by exact rfl
@[simp] theorem w_cb {q : B1} : EX.w C (.cb q kp as) env H = (as.w C env H).bind (kCbW q kp) := by exact rfl
@[simp] theorem w_ifx : EX.w C (.ifx t e1 e2) env H = (t.w C env H).bind (kIfW (e1.w C) (e2.w C) env) := by exact rfl
@[simp] theorem w_and : EX.w C (.and e1 e2) env H = (e1.w C env H).bind (kAndW (e2.w C) env) := by exact rfl
@[simp] theorem w_or : EX.w C (.or e1 e2) env H = (e1.w C env H).bind (kOrW (e2.w C) env) := by exact rfl
@[simp] theorem w_not : EX.w C (.not e) env H = (e.w C env H).bind kNotW := by exact rfl
@[simp] theorem w_ch : EX.w C (.ch o o' e1 e2 e3) env H = (e1.w C env H).bind (kChW o o' (e2.w C) (e3.w C) env) := by exact rfl
@[simp] theorem w_sl : EX.w C (.sl kp e lo hi) env H = (e.w C env H).bind (kSlW kp (lo.w C) (hi.w C) env) := by exact rfl
@[simp] theorem w_rev : EX.w C (.rev kp e1 e2) env H = (e1.w C env H).bind (kRevW kp (e2.w C) env) := by exact rfl
@[simp] theorem w_lc {vs : List Nat} : EX.w C (.lc kp vs it g t e) env H = (it.w C env H).bind (kLcW kp vs (g.w C) (t.w C) (e.w C) env) := by exact rfl
@[simp] theorem w_call {f : Str} {src : List PV.Src} {dfl : List C0} : EX.w C (.call kp f src dfl as bs) env H = (as.w C env H).bind (kCallW (C f) kp src dfl (bs.w C) env) := by exact rfl
@[simp] theorem w_fld {cs : List Str} {f : Str} : EX.w C (.fld cs f e) env H = (e.w C env H).bind (kFldW cs f) := by exact rfl
@[simp] theorem kFldW_v {cs : List Str} {f : Str} : kFldW cs f a H = fldW cs f a H := by exact rfl
@[simp] theorem fldW_v {cs : List Str} {f : Str} : fldW cs f a H = (match insW H a with
  | some (_, c, fs) => if cs.contains c = true then ofW ((lookF f fs).map some) H else .stk
  | none => .stk) := by exact rfl
@[simp] theorem insW_r {m : Nat} : insW H (.r m) = (match H[m]? with
    | some (.live (.ins c fs)) => some (m, c, fs)
    | _ => none) := by exact rfl
@[simp] theorem lookF_n {f : Str} : lookF f [] = none := by exact rfl
@[simp] theorem lookF_c {f g : Str} {fs : List (Str × W)} : lookF f ((g, w) :: fs) = if g = f then some w else lookF f fs := by exact rfl
@[simp] theorem putFW_n {f : Str} : putFW f w [] = [(f, w)] := by exact rfl
@[simp] theorem putFW_c {f g : Str} {fs : List (Str × W)} : putFW f w ((g, a) :: fs) = if g = f then (g, w) :: fs else (g, a) :: putFW f w fs := by exact rfl
@[simp] theorem w_mth {m : Str} {l : List CandX} : EX.w C (.mth kp m l e as bs) env H = (e.w C env H).bind (kMthW C kp m l (as.w C) (bs.w C) env) := by exact rfl
@[simp] theorem kMthW_v {m : Str} {l : List CandX} {fa fk : PA0} : kMthW C kp m l fa fk env a H = ofC C kp fa fk env a H (mthX m l (insW H a)) := by exact rfl
@[simp] theorem mthX_s {m cc : Str} {n : Nat} {l : List CandX} {fs : List (Str × W)} : mthX m l (some (n, cc, fs)) = (match lookF m fs with
    | none => candX l cc
    | some _ => none) := by exact rfl
@[simp] theorem candX_n {cc : Str} : candX [] cc = none := by exact rfl
@[simp] theorem candX_c {cc : Str} {q : CandX} {l : List CandX} : candX (q :: l) cc = if q.c = cc then some q else candX l cc := by exact rfl
@[simp] theorem ofC_s {q : CandX} {fa fk : PA0} : ofC C kp fa fk env a H (some q) = (fa env H).bind (kMthW1 C kp q fk env a) := by exact rfl
@[simp] theorem kMthW1_v {q : CandX} {fk : PA0} : kMthW1 C kp q fk env a ws H = (fk env H).bind (kMthW2 C kp q a ws) := by exact rfl
@[simp] theorem kMthW2_v {q : CandX} : kMthW2 C kp q a ws vs H = callW (C q.g) kp (arr (a :: ws) vs (C0.ws q.dfl) q.src) H := by exact rfl
@[simp] theorem w_mk {f : Str} : EX.w C (.mk kp f as) env H = (as.w C env H).bind (kMkW0 (C f) kp) := by exact rfl
@[simp] theorem kMkW0_v {F : List W → Hot → Rs W} : kMkW0 F kp ws H = callW F kp ws H := by exact rfl
theorem mkRunW_v {F : List W → Hot → Rs W} {cc : Str} : mkRunW F cc ws H = (F (.r H.length :: ws) (H ++ [.live (.ins cc [])])).bind (kMkW H.length) := by exact rfl
@[simp] theorem kMkW_v {n : Nat} : kMkW n (.v .non) H = .ok (.r n) H := by exact rfl
@[simp] theorem w_lc2 {vs vs1 : List Nat} {it1 : IX} {g1 : GX} {t1 : TX} : EX.w C (.lc2 kp vs it g t it1 vs1 g1 t1 e) env H = (it.w C env H).bind (kLc2W kp vs (g.w C) (t.w C) (it1.w C) vs1 (g1.w C) (t1.w C) (e.w C) env) := by exact rfl
@[simp] theorem kLc2W_v {ns vs1 : List Nat} {gg g1 : PG0} {tt t1 : PT0} {fi1 : PI0} {fe : PE0} {xs : List V0} : kLc2W kp ns gg tt fi1 vs1 g1 t1 fe env xs H = (noxW (lcW2 gg tt fi1 vs1 g1 t1 fe (wipeW env ns) xs [] H)).bind (kLcEnd kp) := by exact rfl
@[simp] theorem w_gfl {cs : List Str} {f : Str} : GX.w C (.fl cs f i) w env H = (ofW env[i]? H).bind (gflW cs f w env) := by exact rfl
@[simp] theorem gflW_v {cs : List Str} {f : Str} : gflW cs f w env a H = ofH env (fputW cs f a (fvW w H)) := by exact rfl
@[simp] theorem fvW_v : fvW (.v x) H = some (.v x, H) := by exact rfl
@[simp] theorem fvW_r {m : Nat} : fvW (.r m) H = some (.r m, H) := by exact rfl
@[simp] theorem fvW_t : fvW (.t ws) H = (fzW (.t ws) H).map fun p => (.v p.1, p.2) := by exact rfl
@[simp] theorem ofH_s {α : Type} {q : α} : ofH q (some H) = .ok q H := by exact rfl
@[simp] theorem fputW_v {cs : List Str} {f : Str} : fputW cs f a (some (w, H)) = (match insW H a with
    | some (m, c, fs) => if cs.contains c = true ∧ fs.length < 1000 then some (H.set m (.live (.ins c (putFW f w fs)))) else none
    | none => none) := by exact rfl
@[simp] theorem w_gtq {ts : List TQ} : GX.w C (.tq ts) w env H = tqsF ts env H (compW w) := by exact rfl
@[simp] theorem tqsF_s {ts : List TQ} : tqsF ts env H (some ws) = tqsW ts ws env H := by exact rfl
@[simp] theorem tqsW_n : tqsW [] [] env H = .ok env H := by exact rfl
@[simp] theorem tqsW_c {q : TQ} {ts : List TQ} : tqsW (q :: ts) (w :: ws) env H = (tqW q w env H).bind (tqsK (tqsW ts ws)) := by exact rfl
@[simp] theorem tqsK_v {go : WEnv → Hot → Rs WEnv} : tqsK go env H = go env H := by exact rfl
@[simp] theorem tqW_n : tqW (.nm i) w env H = .ok (env.set i (some w)) H := by exact rfl
@[simp] theorem tqW_f {cs : List Str} {f : Str} : tqW (.fl cs f i) w env H = (ofW env[i]? H).bind (gflW cs f w env) := by exact rfl
@[simp] theorem w_saug {q : A2} : SX.w C (.saug q e1 e2 e3) env H = (e1.w C env H).bind (kSA0W q (e2.w C) (e3.w C) env) := by exact rfl
@[simp] theorem kSA0W_v {q : A2} {fi fe : PE0} : kSA0W q fi fe env a H = (fi env H).bind (kSA1W q fe env a) := by exact rfl
@[simp] theorem kSA1W_v {q : A2} {fe : PE0} : kSA1W q fe env a b H = kSA2W q fe env a b H (getLW H a b) := by exact rfl
@[simp] theorem kSA2W_v {q : A2} {fe : PE0} : kSA2W q fe env a b H (some x) = (fe env H).bind (kSA3W q env a b x) := by exact rfl
@[simp] theorem kSA3W_v {q : A2} : kSA3W q env a b x c H = ofL a b env H ((dvW H c).bind (augV q x)) := by exact rfl
@[simp] theorem ofL_s : ofL a b env H (some x) = (stoL a b x env H).bind kNxW := by exact rfl
@[simp] theorem getLW_r {m : Nat} : getLW H (.r m) b = (lstH H m).bind fun vs => (dvW H b).bind fun k => ixV (.lst vs) k := by exact rfl
@[simp] theorem getLW_q {m n : Nat} : getLW H (.q m n) b = (rowV H m n).bind fun vs => (dvW H b).bind fun k => ixV (.lst vs) k := by exact rfl
@[simp] theorem stoL_r {m : Nat} : stoL (.r m) b x env H = stoRes m env H ((lstH H m).bind fun vs => (dvW H b).bind (setI vs x)) := by exact rfl
@[simp] theorem stoL_q {m n : Nat} : stoL (.q m n) b x env H = stoQ m n env H ((rowV H m n).bind fun vs => (dvW H b).bind (setQ vs x)) := by exact rfl
@[simp] theorem w_faug {cs : List Str} {f : Str} {q : A2} : SX.w C (.faug cs f q e1 e2) env H = (e1.w C env H).bind (kFA0W cs f q (e2.w C) env) := by exact rfl
@[simp] theorem kFA0W_v {cs : List Str} {f : Str} {q : A2} {fe : PE0} : kFA0W cs f q fe env a H = (fldW cs f a H).bind (kFA1W cs f q fe env a H) := by exact rfl
@[simp] theorem kFA1W_v {cs : List Str} {f : Str} {q : A2} {fe : PE0} {H0 : Hot} : kFA1W cs f q fe env a H0 (.v x) H = (fe env H).bind (kFA2W (clsX H0 a) f q env a x) := by exact rfl
@[simp] theorem kFA2W_v {f cc : Str} {q : A2} : kFA2W cc f q env a x b H = ofH (.nx env) (((dvW H b).bind (augV q x)).bind fun z => fputW [cc] f a (some (.v z, H))) := by exact rfl
@[simp] theorem clsX_v : clsX H a = (match insW H a with
  | some (_, c, _) => c
  | none => Str.empty) := by exact rfl
@[simp] theorem w_m {q : M1} : EX.w C (.m q e as) env H = (e.w C env H).bind (kMW q (as.w C) env) := by exact rfl
@[simp] theorem w_dn : EX.w C .dn env H = .ok (.r H.length) (H ++ [.live (.dk [])]) := by exact rfl
@[simp] theorem w_nil : AX.w C .nil env H = .ok [] H := by exact rfl
@[simp] theorem w_cons : AX.w C (.cons e as) env H = (e.w C env H).bind (kConsW (as.w C) env) := by exact rfl
@[simp] theorem w_star : AX.w C (.star e as) env H = (e.w C env H).bind (kStarW (as.w C) env) := by exact rfl
@[simp] theorem w_val : TX.w C (.val e) env H = (e.w C env H).bind kValW := by exact rfl
@[simp] theorem w_tnot : TX.w C (.not t) env H = (t.w C env H).bind kTnotW := by exact rfl
@[simp] theorem w_tand : TX.w C (.and t u) env H = (t.w C env H).bind (kTandW (u.w C) env) := by exact rfl
@[simp] theorem w_tor : TX.w C (.or t u) env H = (t.w C env H).bind (kTorW (u.w C) env) := by exact rfl
@[simp] theorem w_tb : TX.w C (.tb e) env H = (e.w C env H).bind kTbW := by exact rfl
@[simp] theorem w_yes : TX.w C .yes env H = .ok true H := by exact rfl
@[simp] theorem w_onone : OX.w C .none env H = .ok none H := by exact rfl
@[simp] theorem w_osome : OX.w C (.some e) env H = (e.w C env H).bind kOsW := by exact rfl
@[simp] theorem w_iseq : IX.w C (.seq e) env H = (e.w C env H).bind kSeqIt := by exact rfl
@[simp] theorem w_irg : IX.w C (.rg as) env H = (as.w C env H).bind kRgIt := by exact rfl
@[simp] theorem w_ien : IX.w C (.en as) env H = (as.w C env H).bind kEnIt := by exact rfl
@[simp] theorem w_izp : IX.w C (.zp as) env H = (as.w C env H).bind kZpIt := by exact rfl
@[simp] theorem w_gnm : GX.w C (.nm i) w env H = .ok (env.set i (some w)) H := by exact rfl
@[simp] theorem w_gtp {is : List Nat} : GX.w C (.tp is) w env H = ofEnv ((compW w).bind fun ws => setAll is ws env) H := by exact rfl
@[simp] theorem w_gsb : GX.w C (.sb e1 e2) w env H = (e1.w C env H).bind (kSbW w (e2.w C) env) := by exact rfl
@[simp] theorem w_snil : SX.w C .nil env H = .ok (.nx env) H := by exact rfl
@[simp] theorem w_seq : SX.w C (.seq s1 s2) env H = (s1.w C env H).bind (kSeqW (s2.w C)) := by exact rfl
@[simp] theorem w_brk : SX.w C .brk env H = .ok (.bk env) H := by exact rfl
@[simp] theorem w_cnt : SX.w C .cnt env H = .ok (.ct env) H := by exact rfl
@[simp] theorem w_expr : SX.w C (.expr e) env H = (e.w C env H).bind (kExprW env) := by exact rfl
@[simp] theorem w_ret : SX.w C (.ret e) env H = (e.w C env H).bind kRetW := by exact rfl
@[simp] theorem w_retN : SX.w C .retN env H = .ok (.rt (.v .non)) H := by exact rfl
@[simp] theorem w_if : SX.w C (.if_ t s1 s2) env H = (t.w C env H).bind (kIfW (s1.w C) (s2.w C) env) := by exact rfl
@[simp] theorem w_asg : SX.w C (.asg e g) env H = (e.w C env H).bind (kAsgW (g.w C) env) := by exact rfl
@[simp] theorem w_par : SX.w C (.par i j as) env H = (as.w C env H).bind (kParW [i, j] env) := by exact rfl
@[simp] theorem w_par3 {l : Nat} : SX.w C (.par3 i j l as) env H = (as.w C env H).bind (kParW [i, j, l] env) := by exact rfl
@[simp] theorem w_aug {pl : A2} : SX.w C (.aug i pl e) env H = (ofW env[i]? H).bind (kAugW i pl (e.w C) env) := by exact rfl
@[simp] theorem w_for {gc : Bool} : SX.w C (.for_ gc it g s) env H = (it.w C env H).bind (kFor0 gc (g.w C) (s.w C) env) := by exact rfl
@[simp] theorem w_while {gc : Bool} : SX.w C (.while_ gc t s) env H = whW gc (t.w C) (s.w C) wTurns env H := by exact rfl
@[simp] theorem w_sstk : SX.w C .stk env H = .stk := by exact rfl
@[simp] theorem cv_non : C0.v .non = .non := by exact rfl
@[simp] theorem cv_bl {b : Bool} : C0.v (.bl b) = .bl b := by exact rfl
@[simp] theorem cv_int {i : Int} : C0.v (.int i) = .int i := by exact rfl
@[simp] theorem cv_str {x : Str} : C0.v (.str x) = .str x := by exact rfl
@[simp] theorem cv_ty {x : String} : C0.v (.ty x) = .ty x := by exact rfl
@[simp] theorem cv_tup {cs : List C0} : C0.v (.tup cs) = .tup (C0.vs cs) := by exact rfl
@[simp] theorem cvs_nil : C0.vs [] = [] := by exact rfl
@[simp] theorem cvs_cons {k : C0} {cs : List C0} : C0.vs (k :: cs) = k.v :: C0.vs cs := by exact rfl
@[simp] theorem ws_eq {cs : List C0} : C0.ws cs = (C0.vs cs).map .v := by exact rfl
@[simp] theorem ofW_s : ofW (some (some w)) H = .ok w H := by exact rfl
@[simp] theorem ofV_s : ofV (some x) H = .ok (.v x) H := by exact rfl
@[simp] theorem ofV_n : ofV none H = .stk := by exact rfl
@[simp] theorem ofV_ite {p : Prop} [Decidable p] {u v : Option V0} : ofV (if p then u else v) H = if p then ofV u H else ofV v H := by split <;> rfl
@[simp] theorem ofK_s : ofK kp (some x) H = putK kp x H := by exact rfl
@[simp] theorem ofK_n : ofK kp none H = .stk := by exact rfl
@[simp] theorem ofK_ite {p : Prop} [Decidable p] {u v : Option V0} : ofK kp (if p then u else v) H = if p then ofK kp u H else ofK kp v H := by split <;> rfl
@[simp] theorem putK_f : putK false x H = .ok (.v x) H := by exact rfl
@[simp] theorem putK_l {xs : List V0} : putK true (.lst xs) H = .ok (.r H.length) (H ++ [.live (.lst xs)]) := by exact rfl
@[simp] theorem putK_i {i : Int} : putK true (.int i) H = .ok (.v (.int i)) H := by exact rfl
@[simp] theorem putK_b {b : Bool} : putK true (.bl b) H = .ok (.v (.bl b)) H := by exact rfl
@[simp] theorem putK_t {xs : List V0} : putK true (.tup xs) H = .ok (.v (.tup xs)) H := by exact rfl
@[simp] theorem putK_str {s : Str} : putK true (.str s) H = .ok (.v (.str s)) H := by exact rfl
@[simp] theorem two_s {p : V0 → V0 → Option V0} : two p (some x) (some y) = p x y := by exact rfl
@[simp] theorem dvW_v : dvW H (.v x) = some x := by exact rfl
@[simp] theorem dvW_r {m : Nat} : dvW H (.r m) = H[m]?.bind HE.val := by exact rfl
@[simp] theorem dvW_t : dvW H (.t ws) = (dvWs H ws).map .tup := by exact rfl
@[simp] theorem dvWs_n : dvWs H [] = some [] := by exact rfl
@[simp] theorem dvWs_c : dvWs H (w :: ws) = (match dvW H w, dvWs H ws with | some v, some vs => some (v :: vs) | _, _ => none) := by exact rfl
@[simp] theorem bvW_v : bvW H (.v x) = some x := by exact rfl
@[simp] theorem bvW_r {m : Nat} : bvW H (.r m) = H[m]?.bind HE.val := by exact rfl
@[simp] theorem bvWs_n : bvWs H [] = some [] := by exact rfl
@[simp] theorem bvWs_c : bvWs H (w :: ws) = (match bvW H w, bvWs H ws with | some v, some vs => some (v :: vs) | _, _ => none) := by exact rfl
@[simp] theorem val_ll {xs : List V0} : HE.val (.live (.lst xs)) = some (.lst xs) := by exact rfl
@[simp] theorem val_c : HE.val (.cold x) = some x := by exact rfl
@[simp] theorem kBinW_v {fb : PE0} : kBinW o kp fb env a H = (fb env H).bind (kBinW2 o kp a) := by exact rfl
@[simp] theorem kBinW2_v : kBinW2 o kp a b H = binW o kp a b H := by exact rfl
@[simp] theorem binW_add : binW .add kp a b H = ofK kp (two addV (bvW H a) (bvW H b)) H := by exact rfl
@[simp] theorem binW_mul : binW .mul kp a b H = ofK kp (two mulV (bvW H a) (bvW H b)) H := by exact rfl
@[simp] theorem binW_in : binW .in_ kp a b H = inW false a b H := by exact rfl
@[simp] theorem binW_notIn : binW .notIn kp a b H = inW true a b H := by exact rfl
@[simp] theorem binW_ix : binW .ix kp a b H = ixW a b H := by exact rfl
@[simp] theorem binW_sub : binW .sub kp a b H = scW .sub a b H := by exact rfl
@[simp] theorem binW_fdiv : binW .fdiv kp a b H = scW .fdiv a b H := by exact rfl
@[simp] theorem binW_mod : binW .mod kp a b H = scW .mod a b H := by exact rfl
@[simp] theorem binW_pow : binW .pow kp a b H = scW .pow a b H := by exact rfl
@[simp] theorem binW_shl : binW .shl kp a b H = scW .shl a b H := by exact rfl
@[simp] theorem binW_shr : binW .shr kp a b H = scW .shr a b H := by exact rfl
@[simp] theorem binW_band : binW .band kp a b H = scW .band a b H := by exact rfl
@[simp] theorem binW_bor : binW .bor kp a b H = scW .bor a b H := by exact rfl
@[simp] theorem binW_bxor : binW .bxor kp a b H = scW .bxor a b H := by exact rfl
@[simp] theorem binW_eq : binW .eq kp a b H = scW .eq a b H := by exact rfl
@[simp] theorem binW_ne : binW .ne kp a b H = scW .ne a b H := by exact rfl
@[simp] theorem binW_ord {q : Oc} : binW (.ord q) kp a b H = scW (.ord q) a b H := by exact rfl
@[simp] theorem binW_is : binW .is kp a b H = scW .is a b H := by exact rfl
@[simp] theorem binW_isNot : binW .isNot kp a b H = scW .isNot a b H := by exact rfl
@[simp] theorem scW_v : scW o a b H = ofV (two o.s (dvW H a) (dvW H b)) H := by exact rfl
section
variable {i j : Int} {p q : Bool} {xs ys : List V0}
@[simp] theorem s_sub : B2.s .sub (.int i) (.int j) = some (.int (i - j)) := by exact rfl
theorem s_fdiv : B2.s .fdiv (.int i) (.int j) = if 0 < j ∧ j.natAbs.log2 < 9000 then some (.int (i / j)) else none := by exact rfl
theorem s_mod : B2.s .mod (.int i) (.int j) = if 0 < j then some (.int (i % j)) else none := by exact rfl
theorem s_pow : B2.s .pow (.int i) (.int j) = if powOk i j = true then some (.int (i ^ j.toNat)) else none := by exact rfl
theorem s_shl : B2.s .shl (.int i) (.int j) = if 0 ≤ j ∧ (Builtin.Int.intBits i : Int) + j ≤ 2 ^ 27 then some (.int (i * 2 ^ j.toNat)) else none := by exact rfl
theorem s_shr : B2.s .shr (.int i) (.int j) = if 0 ≤ j then some (.int (i / 2 ^ j.toNat)) else none := by exact rfl
@[simp] theorem s_band : B2.s .band (.int i) (.int j) = some (.int (Builtin.bitAnd i j)) := by exact rfl
@[simp] theorem s_bor : B2.s .bor (.int i) (.int j) = some (.int (Builtin.bitOr i j)) := by exact rfl
@[simp] theorem s_bxor : B2.s .bxor (.int i) (.int j) = some (.int (Builtin.bitXor i j)) := by exact rfl
@[simp] theorem s_eq : B2.s .eq x y = (eqV x y).map .bl := by exact rfl
@[simp] theorem s_ne : B2.s .ne x y = (eqV x y).map fun z => .bl (!z) := by exact rfl
@[simp] theorem s_ord {o : Oc} : B2.s (.ord o) x y = (ordV o x y).map .bl := by exact rfl
@[simp] theorem s_is : B2.s .is x .non = some (.bl (isNonV x)) := by exact rfl
@[simp] theorem s_isNot : B2.s .isNot x .non = some (.bl (!isNonV x)) := by exact rfl
@[simp] theorem non_n : isNonV .non = true := by exact rfl
@[simp] theorem non_b : isNonV (.bl p) = false := by exact rfl
@[simp] theorem non_i : isNonV (.int i) = false := by exact rfl
@[simp] theorem non_s {s : Str} : isNonV (.str s) = false := by exact rfl
@[simp] theorem non_t : isNonV (.tup xs) = false := by exact rfl
@[simp] theorem non_l : isNonV (.lst xs) = false := by exact rfl
@[simp] theorem ordV_i {o : Oc} : ordV o (.int i) (.int j) = some (o.i i j) := by exact rfl
@[simp] theorem oc_lt : Oc.i .lt i j = decide (i < j) := by exact rfl
@[simp] theorem oc_le : Oc.i .le i j = decide (i ≤ j) := by exact rfl
@[simp] theorem oc_gt : Oc.i .gt i j = decide (j < i) := by exact rfl
@[simp] theorem oc_ge : Oc.i .ge i j = decide (j ≤ i) := by exact rfl
@[simp] theorem addV_i : addV (.int i) (.int j) = some (.int (i + j)) := by exact rfl
@[simp] theorem addV_t : addV (.tup xs) (.tup ys) = if xs.length + ys.length ≤ sizeLine then some (.tup (xs ++ ys)) else none := by exact rfl
@[simp] theorem addV_l : addV (.lst xs) (.lst ys) = if xs.length + ys.length ≤ sizeLine then some (.lst (xs ++ ys)) else none := by exact rfl
@[simp] theorem addV_fl : addV (.fz xs) (.lst ys) = if xs.length + ys.length ≤ sizeLine then some (.lst (xs ++ ys)) else none := by exact rfl
@[simp] theorem mulV_i : mulV (.int i) (.int j) = if mulOk i j = true then some (.int (i * j)) else none := by exact rfl
@[simp] theorem mulV_l : mulV (.lst xs) (.int j) = if -(2 ^ 63) ≤ j ∧ j < 2 ^ 63 ∧ xs.length * j.toNat ≤ sizeLine then some (.lst (List.replicate j.toNat xs).flatten) else none := by exact rfl
@[simp] theorem ixV_t : ixV (.tup xs) (.int i) = atI xs i := by exact rfl
@[simp] theorem ixV_l : ixV (.lst xs) (.int i) = atI xs i := by exact rfl
@[simp] theorem ixV_f : ixV (.fz xs) (.int i) = atI xs i := by exact rfl
@[simp] theorem eqV_i : eqV (.int i) (.int j) = some (decide (i = j)) := by
  show some (i == j) = _
  rfl
@[simp] theorem eqV_b : eqV (.bl p) (.bl q) = some (p == q) := by exact rfl
end
@[simp] theorem ixW_v : ixW (.v x) (.v y) H = ofV (ixV x y) H := by exact rfl
@[simp] theorem ixW_r {m : Nat} (h : dctAt H (.r m) = none) : ixW (.r m) b H = rowR m H b := by
  unfold ixW
  rw [h]
@[simp] theorem ixW_q {m n : Nat} : ixW (.q m n) (.v y) H = ofV (two ixV (rowV H m n |>.map .lst) (some y)) H := by exact rfl
@[simp] theorem rowR_v {m : Nat} : rowR m H b = (match H[m]? with
  | some (.live (.ll rows)) => rowQ m H (rowI rows.length (dvW H b))
  | o => ofV (two ixV (o.bind HE.val) (dvW H b)) H) := by exact rfl
@[simp] theorem rowI_i {n : Nat} {i : Int} : rowI n (some (.int i)) = ixN n i := by exact rfl
@[simp] theorem rowQ_s {m n : Nat} : rowQ m H (some n) = .ok (.q m n) H := by exact rfl
@[simp] theorem dct_q {m n : Nat} : dctAt H (.q m n) = none := by exact rfl
@[simp] theorem dct_t : dctAt H (.t ws) = none := by exact rfl
@[simp] theorem rowV_v {m n : Nat} : rowV H m n = (match H[m]? with
  | some (.live (.ll rows)) => rows[n]?
  | _ => none) := by exact rfl
@[simp] theorem ixW_t {i : Int} : ixW (.t ws) (.v (.int i)) H = ofW ((atI ws i).map some) H := by exact rfl
@[simp] theorem dct_v : dctAt H (.v x) = none := by exact rfl
@[simp] theorem dct_r {m : Nat} : dctAt H (.r m) = (match H[m]? with
    | some (.live (.dk kvs)) => some (m, .dk kvs)
    | some (.live (.dd kvs)) => some (m, .dd kvs)
    | _ => none) := by exact rfl
@[simp] theorem inW_v {ng : Bool} : inW ng a (.v x) H = ofV (two (fun x y => (inV x y).map fun z => .bl (z != ng)) (dvW H a) (some x)) H := by exact rfl
@[simp] theorem kNegW_v {i : Int} : kNegW (.v (.int i)) H = .ok (.v (.int (-i))) H := by exact rfl
@[simp] theorem kTupW_v : kTupW ws H = .ok (mkT ws) H := by exact rfl
@[simp] theorem kTupSW_v : kTupSW ws H = if ws.length ≤ sizeLine then .ok (mkT ws) H else .stk := by exact rfl
@[simp] theorem mkT_n : mkT [] = .v (.tup []) := by exact rfl
@[simp] theorem mkT_1 : mkT [.v x] = .v (.tup [x]) := by exact rfl
@[simp] theorem mkT_2 : mkT [.v x, .v y] = .v (.tup [x, y]) := by exact rfl
@[simp] theorem mkT_3 : mkT [.v x, .v y, .v z] = .v (.tup [x, y, z]) := by exact rfl
@[simp] theorem mkT_4 {x4 : V0} : mkT [.v x, .v y, .v z, .v x4] = .v (.tup [x, y, z, x4]) := by exact rfl
@[simp] theorem mkT_5 {x4 x5 : V0} : mkT [.v x, .v y, .v z, .v x4, .v x5] = .v (.tup [x, y, z, x4, x5]) := by exact rfl
@[simp] theorem mkT_r {m : Nat} : mkT (.r m :: ws) = .t (.r m :: ws) := by exact rfl
@[simp] theorem mkT_vr {m : Nat} : mkT (.v x :: .r m :: ws) = .t (.v x :: .r m :: ws) := by exact rfl
theorem allV_map : ∀ xs : List V0, allV (xs.map .v) = some xs
  | [] => rfl
  | x :: r => by simp [allV, allV_map r]
theorem mkT_map (xs : List V0) : mkT (xs.map .v) = .v (.tup xs) := by unfold mkT; rw [allV_map]
@[simp] theorem kLstW_v : kLstW kp ws H = kpLst kp (fzWs ws H) := by exact rfl
@[simp] theorem kLstSW_v : kLstSW kp ws H = if ws.length ≤ sizeLine then kpLst kp (fzWs ws H) else .stk := by exact rfl
@[simp] theorem kpLst_s {xs : List V0} : kpLst kp (some (xs, H)) = putK kp (.lst xs) H := by exact rfl
@[simp] theorem fzW_v : fzW (.v x) H = some (x, H) := by exact rfl
@[simp] theorem fzW_r {m : Nat} : fzW (.r m) H = (match H[m]? with
    | some (.live (.lst vs)) => some (.lst vs, H.set m (.cold (.lst vs)))
    | some (.live (.ll rows)) => some (.lst (rows.map .lst), H.set m (.cold (.lst (rows.map .lst))))
    | some (.cold x) => some (x, H)
    | _ => none) := by exact rfl
@[simp] theorem fzW_t : fzW (.t ws) H = (match fzWs ws H with
    | some (xs, H') => some (.tup xs, H')
    | none => none) := by exact rfl
@[simp] theorem fzWs_n : fzWs [] H = some ([], H) := by exact rfl
@[simp] theorem fzWs_c : fzWs (w :: ws) H = (match fzW w H with
    | some (v, H1) => (match fzWs ws H1 with
      | some (vs, H2) => some (v :: vs, H2)
      | none => none)
    | none => none) := by exact rfl
theorem fzWs_map : ∀ xs : List V0, fzWs (xs.map .v) H = some (xs, H)
  | [] => rfl
  | x :: r => by simp [fzWs_map r]
@[simp] theorem fzWs_cat {α : Type} {f : α → V0} : ∀ {l : List α}, fzWs (l.map (W.v ∘ f) ++ ws) H = (fzWs ws H).map fun p => (l.map f ++ p.1, p.2)
  | [] => by
    show fzWs ws H = _
    cases fzWs ws H <;> rfl
  | a :: r => by
    have := fzWs_cat (f := f) (l := r)
    simp only [List.map_cons, List.cons_append, fzWs_c, Function.comp, fzW_v] at this ⊢
    rw [this]
    cases fzWs ws H <;> rfl
@[simp] theorem fzWs_cat0 {l : List V0} : fzWs (l.map W.v ++ ws) H = (fzWs ws H).map fun p => (l ++ p.1, p.2) := by
  have := fzWs_cat (f := id) (l := l) (ws := ws) (H := H)
  simpa using this
@[simp] theorem kCbW_v {q : B1} : kCbW q kp ws H = cbW q kp ws H := by exact rfl
@[simp] theorem cb_len : cbW .len kp ws H = ofV ((dvWs H ws).bind B1.len.s) H := by exact rfl
@[simp] theorem cb_abs : cbW .abs kp ws H = ofV ((dvWs H ws).bind B1.abs.s) H := by exact rfl
@[simp] theorem cb_int : cbW .int kp ws H = ofV ((dvWs H ws).bind B1.int.s) H := by exact rfl
@[simp] theorem cb_all : cbW .all kp ws H = ofV ((dvWs H ws).bind B1.all.s) H := by exact rfl
@[simp] theorem cb_any : cbW .any kp ws H = ofV ((dvWs H ws).bind B1.any.s) H := by exact rfl
@[simp] theorem cb_sum : cbW .sum kp ws H = ofV ((dvWs H ws).bind B1.sum.s) H := by exact rfl
@[simp] theorem cb_max : cbW .max kp ws H = ofV ((dvWs H ws).bind B1.max.s) H := by exact rfl
@[simp] theorem cb_min : cbW .min kp ws H = ofV ((dvWs H ws).bind B1.min.s) H := by exact rfl
@[simp] theorem cb_repr : cbW .repr kp ws H = ofV ((dvWs H ws).bind B1.repr.s) H := by exact rfl
@[simp] theorem cb_isi : cbW .isi kp ws H = ofV ((dvWs H ws).bind B1.isi.s) H := by exact rfl
@[simp] theorem cb_tuple : cbW .tuple kp ws H = ofK kp ((bvWs H ws).bind B1.tuple.m) H := by exact rfl
@[simp] theorem cb_list : cbW .list kp ws H = ofK kp ((bvWs H ws).bind B1.list.m) H := by exact rfl
@[simp] theorem cb_sorted : cbW .sorted kp ws H = ofK kp ((bvWs H ws).bind B1.sorted.m) H := by exact rfl
section
variable {i j : Int} {p q : Bool} {xs ys : List V0}
@[simp] theorem len_l : B1.len.s [.lst xs] = some (.int xs.length) := by exact rfl
@[simp] theorem len_t : B1.len.s [.tup xs] = some (.int xs.length) := by exact rfl
@[simp] theorem len_f : B1.len.s [.fz xs] = some (.int xs.length) := by exact rfl
@[simp] theorem bools_n : boolsV [] = some [] := by exact rfl
@[simp] theorem bools_c : boolsV (.bl p :: xs) = (boolsV xs).map (p :: ·) := by
  unfold boolsV
  rw [mapO]
  cases mapO _ xs <;> rfl
@[simp] theorem ints_n : intsV [] = some [] := by exact rfl
@[simp] theorem ints_c : intsV (.int i :: xs) = (intsV xs).map (i :: ·) := by
  unfold intsV
  rw [mapO]
  cases mapO _ xs <;> rfl
theorem bools_map {α : Type} {f : α → V0} {g : α → Bool} : ∀ {l : List α}, (∀ a ∈ l, f a = .bl (g a)) → boolsV (l.map f) = some (l.map g)
  | [], _ => rfl
  | a :: r, h => by rw [List.map_cons, h a (List.mem_cons_self ..), bools_c, bools_map fun b hb => h b (List.mem_cons_of_mem _ hb)]; rfl
theorem ints_map {α : Type} {f : α → V0} {g : α → Int} : ∀ {l : List α}, (∀ a ∈ l, f a = .int (g a)) → intsV (l.map f) = some (l.map g)
  | [], _ => rfl
  | a :: r, h => by rw [List.map_cons, h a (List.mem_cons_self ..), ints_c, ints_map fun b hb => h b (List.mem_cons_of_mem _ hb)]; rfl
@[simp] theorem all_l : B1.all.s [.lst xs] = (boolsV xs).map fun bs => .bl (bs.all id) := by
  show (match boolsV xs with
    | some bs => some (V0.bl (bs.all id))
    | none => none) = _
  cases boolsV xs <;> rfl
@[simp] theorem any_l : B1.any.s [.lst xs] = (boolsV xs).map fun bs => .bl (bs.any id) := by
  show (match boolsV xs with
    | some bs => some (V0.bl (bs.any id))
    | none => none) = _
  cases boolsV xs <;> rfl
@[simp] theorem sum_l : B1.sum.s [.lst xs] = (intsV xs).map fun bs => .int bs.sum := by
  show (match intsV xs with
    | some bs => some (V0.int bs.sum)
    | none => none) = _
  cases intsV xs <;> rfl
@[simp] theorem max_l : B1.max.s [.lst xs] = (intsV xs).bind fun bs => match bs with
    | n :: ns => some (.int (maxL n ns))
    | _ => none := by
  show (match intsV xs with
    | some (n :: ns) => some (V0.int (maxL n ns))
    | _ => none) = _
  rcases intsV xs with _ | _ | _ <;> rfl
@[simp] theorem min_l : B1.min.s [.lst xs] = (intsV xs).bind fun bs => match bs with
    | n :: ns => some (.int (minL n ns))
    | _ => none := by
  show (match intsV xs with
    | some (n :: ns) => some (V0.int (minL n ns))
    | _ => none) = _
  rcases intsV xs with _ | _ | _ <;> rfl
@[simp] theorem abs_i : B1.abs.s [.int i] = some (.int i.natAbs) := by
  show some (V0.int (if i < 0 then -i else i)) = _
  simp only [Option.some.injEq, V0.int.injEq]
  split <;> omega
@[simp] theorem int_i : B1.int.s [.int i] = some (.int i) := by exact rfl
@[simp] theorem int_b : B1.int.s [.bl p] = some (.int (if p then 1 else 0)) := by exact rfl
@[simp] theorem max_i : B1.max.s [.int i, .int j] = some (.int (if j > i then j else i)) := by exact rfl
@[simp] theorem min_i : B1.min.s [.int i, .int j] = some (.int (if j < i then j else i)) := by exact rfl
@[simp] theorem repr_b : B1.repr.s [.bl p] = some (.str (if p then "True" else "False")) := by exact rfl
@[simp] theorem repr_n : B1.repr.s [.non] = some (.str "None") := by exact rfl
@[simp] theorem tuple_l : B1.tuple.m [.lst xs] = some (.tup xs) := by exact rfl
@[simp] theorem tuple_t : B1.tuple.m [.tup xs] = some (.tup xs) := by exact rfl
@[simp] theorem list_l : B1.list.m [.lst xs] = some (.lst xs) := by exact rfl
@[simp] theorem list_t : B1.list.m [.tup xs] = some (.lst xs) := by exact rfl
@[simp] theorem sorted_l : B1.sorted.m [.lst xs] = if sortOkV xs = true then some (.lst (isort ltV xs)) else none := by exact rfl
@[simp] theorem sorted_t : B1.sorted.m [.tup xs] = if sortOkV xs = true then some (.lst (isort ltV xs)) else none := by exact rfl
@[simp] theorem isi_ii : B1.isi.s [.int i, .ty "int"] = some (.bl true) := by exact rfl
@[simp] theorem isi_ib : B1.isi.s [.int i, .ty "bool"] = some (.bl false) := by exact rfl
@[simp] theorem isi_tt : B1.isi.s [.tup xs, .ty "tuple"] = some (.bl true) := by exact rfl
@[simp] theorem isi_nt : B1.isi.s [.non, .ty "tuple"] = some (.bl false) := by exact rfl
@[simp] theorem isi_llt : B1.isi.s [.lst xs, .tup [.ty "list", .ty "tuple"]] = some (.bl true) := by exact rfl
@[simp] theorem isi_tlt : B1.isi.s [.tup xs, .tup [.ty "list", .ty "tuple"]] = some (.bl true) := by exact rfl
@[simp] theorem tru_b : truV (.bl p) = some p := by exact rfl
@[simp] theorem tru_i : truV (.int i) = some (i != 0) := by exact rfl
@[simp] theorem tru_n : truV .non = some false := by exact rfl
@[simp] theorem tru_t : truV (.tup xs) = some (!xs.isEmpty) := by exact rfl
@[simp] theorem tru_l : truV (.lst xs) = some (!xs.isEmpty) := by exact rfl
end
@[simp] theorem kIfW_v {α : Type} {fa fb : WEnv → Hot → Rs α} {p : Bool} : kIfW fa fb env p H = if p = true then fa env H else fb env H := by exact rfl
@[simp] theorem truW_v : truW H w = (dvW H w).bind truV := by exact rfl
@[simp] theorem ofT_s {p : Bool} : ofT (some p) H = .ok p H := by exact rfl
@[simp] theorem kAndW_v {fb : PE0} : kAndW fb env w H = (ofT (truW H w) H).bind (kAndW2 fb env w) := by exact rfl
@[simp] theorem kAndW2_v {fb : PE0} {p : Bool} : kAndW2 fb env w p H = if p = true then fb env H else .ok w H := by exact rfl
@[simp] theorem kOrW_v {fb : PE0} : kOrW fb env w H = (ofT (truW H w) H).bind (kOrW2 fb env w) := by exact rfl
@[simp] theorem kOrW2_v {fb : PE0} {p : Bool} : kOrW2 fb env w p H = if p = true then .ok w H else fb env H := by exact rfl
@[simp] theorem kNotW_v : kNotW w H = (ofT (truW H w) H).bind kNotW2 := by exact rfl
@[simp] theorem kNotW2_v {p : Bool} : kNotW2 p H = .ok (.v (.bl (!p))) H := by exact rfl
@[simp] theorem kTbW_v {p : Bool} : kTbW (.v (.bl p)) H = .ok p H := by exact rfl
@[simp] theorem kChW_v {fb fc : PE0} : kChW o o' fb fc env a H = (fb env H).bind (kChW1 o o' fc env a) := by exact rfl
@[simp] theorem kChW1_v {fc : PE0} : kChW1 o o' fc env a b H = ((scW o a b H).bind kTbW).bind (kChW2 o' fc env b) := by exact rfl
@[simp] theorem kChW2_v {fc : PE0} {p : Bool} : kChW2 o' fc env b p H = if p = true then (fc env H).bind (kChW3 o' b) else .ok (.v (.bl false)) H := by exact rfl
@[simp] theorem kChW3_v : kChW3 o' b c H = scW o' b c H := by exact rfl
@[simp] theorem kSlW_v {fl fh : PO0} : kSlW kp fl fh env a H = (fl env H).bind (kSlW2 kp a fh env) := by exact rfl
@[simp] theorem kSlW2_v {fh : PO0} {l : Option Int} : kSlW2 kp a fh env l H = (fh env H).bind (kSlW3 kp a l) := by exact rfl
@[simp] theorem kSlW3_v {l h : Option Int} : kSlW3 kp a l h H = ofK kp ((bvW H a).bind fun x => slV x l h) H := by exact rfl
@[simp] theorem slV_l {xs : List V0} {l h : Option Int} : slV (.lst xs) l h = some (.lst (cutG xs l h)) := by exact rfl
@[simp] theorem slV_t {xs : List V0} {l h : Option Int} : slV (.tup xs) l h = some (.tup (cutG xs l h)) := by exact rfl
@[simp] theorem kRevW_v {fk : PE0} : kRevW kp fk env a H = (fk env H).bind (kRevW2 kp a) := by exact rfl
@[simp] theorem kRevW2_v : kRevW2 kp a (.v (.int (-1))) H = ofK kp ((bvW H a).bind revV) H := by
  show (if (-1 : Int) = -1 then ofK kp ((bvW H a).bind revV) H else .stk) = _
  rw [if_pos rfl]
@[simp] theorem revV_l {xs : List V0} : revV (.lst xs) = some (.lst xs.reverse) := by exact rfl
@[simp] theorem revV_t {xs : List V0} : revV (.tup xs) = some (.tup xs.reverse) := by exact rfl
@[simp] theorem kLcW_v {ns : List Nat} {gg : PG0} {tt : PT0} {fe : PE0} {xs : List V0} : kLcW kp ns gg tt fe env xs H = (noxW (lcW gg tt fe (wipeW env ns) xs [] H)).bind (kLcEnd kp) := by exact rfl
@[simp] theorem kLcEnd_v {ys : List V0} : kLcEnd kp ys H = putK kp (.lst ys) H := by exact rfl
@[simp] theorem noxW_ok {α : Type} {q : α} : noxW (.ok q H) = .ok q H := by exact rfl
@[simp] theorem okw_nox {α : Type} {r : Rs α} {Q : α → Hot → Prop} : OkW (noxW r) Q ↔ OkW r Q := by cases r <;> exact Iff.rfl
@[simp] theorem kCallW_v {F : List W → Hot → Rs W} {src : List PV.Src} {dfl : List C0} {fk : PA0} : kCallW F kp src dfl fk env ws H = (fk env H).bind (kCallW2 F kp src dfl ws) := by exact rfl
@[simp] theorem kCallW2_v {F : List W → Hot → Rs W} {src : List PV.Src} {dfl : List C0} : kCallW2 F kp src dfl ws vs H = callW F kp (arr ws vs (C0.ws dfl) src) H := by exact rfl
@[simp] theorem kMW_v {q : M1} {fr : PA0} {m : Nat} : kMW q fr env (.r m) H = (match lstH H m with
    | some _ => (fr env H).bind (kMW2 q m)
    | none => (match H[m]? with
      | some (.live (.ll _)) => (fr env H).bind (kMW2 q m)
      | _ => .stk)) := by exact rfl
@[simp] theorem kMW_q {q : M1} {fr : PA0} {m n : Nat} : kMW q fr env (.q m n) H = (match rowV H m n with
    | some _ => (fr env H).bind (kQW2 q m n)
    | none => .stk) := by exact rfl
@[simp] theorem kQW2_v {q : M1} {m n : Nat} : kQW2 q m n ws H = qW q m n ws H := by exact rfl
@[simp] theorem qW_app {m n : Nat} : qW .append m n [w] H = appQ m n (fzW w H) := by exact rfl
@[simp] theorem appQ_s {m n : Nat} : appQ m n (some (x, H)) = (match rowV H m n with
    | some vs => if vs.length < sizeLine then .ok (.v .non) (setRow H m n (vs ++ [x])) else .stk
    | none => .stk) := by exact rfl
@[simp] theorem setRow_v {m n : Nat} {row : List V0} : setRow H m n row = (match H[m]? with
  | some (.live (.ll rows)) => H.set m (.live (.ll (rows.set n row)))
  | _ => H) := by exact rfl
@[simp] theorem mW_apph {m : Nat} : mW .appendH m [w] H = appH m H w := by exact rfl
@[simp] theorem appH_r {m n : Nat} : appH m H (.r n) = if n = m then .stk else (match lstH H n with
    | some vs => (match H[m]? with
      | some (.live (.lst [])) => .ok (.v .non) ((H.set n .gone).set m (.live (.ll [vs])))
      | some (.live (.ll rows)) => if rows.length < sizeLine then .ok (.v .non) ((H.set n .gone).set m (.live (.ll (rows ++ [vs])))) else .stk
      | _ => .stk)
    | none => .stk) := by exact rfl
@[simp] theorem kMW2_v {q : M1} {m : Nat} : kMW2 q m ws H = mW q m ws H := by exact rfl
@[simp] theorem mW_app {m : Nat} : mW .append m [w] H = appW m (fzW w H) := by exact rfl
@[simp] theorem mW_ext {m : Nat} : mW .extend m [w] H = extW m H (bvW H w) := by exact rfl
@[simp] theorem mW_pop {m : Nat} : mW .pop m ws H = popW m H ws := by exact rfl
@[simp] theorem kConsW_v {fr : PA0} : kConsW fr env w H = (fr env H).bind (kConsW2 w) := by exact rfl
@[simp] theorem kConsW2_v : kConsW2 w ws H = .ok (w :: ws) H := by exact rfl
@[simp] theorem kStarW_v {fr : PA0} : kStarW fr env w H = (match (bvW H w).bind seqV with
  | some xs => (fr env H).bind (kStarW2 xs)
  | none => .stk) := by exact rfl
@[simp] theorem kStarW2_v {xs : List V0} : kStarW2 xs ws H = .ok (xs.map .v ++ ws) H := by exact rfl
@[simp] theorem seqV_l {xs : List V0} : seqV (.lst xs) = some xs := by exact rfl
@[simp] theorem seqV_t {xs : List V0} : seqV (.tup xs) = some xs := by exact rfl
@[simp] theorem seqV_f {xs : List V0} : seqV (.fz xs) = some xs := by exact rfl
@[simp] theorem kValW_v : kValW w H = ofT (truW H w) H := by exact rfl
@[simp] theorem kTnotW_v {p : Bool} : kTnotW p H = .ok (!p) H := by exact rfl
@[simp] theorem kTandW_v {ft : PT0} {p : Bool} : kTandW ft env p H = if p = true then ft env H else .ok false H := by exact rfl
@[simp] theorem kTorW_v {ft : PT0} {p : Bool} : kTorW ft env p H = if p = true then .ok true H else ft env H := by exact rfl
@[simp] theorem kOsW_v {i : Int} : kOsW (.v (.int i)) H = .ok (some i) H := by exact rfl
@[simp] theorem kSeqIt_v : kSeqIt w H = itemsF (fzW w H) := by exact rfl
@[simp] theorem kRgIt_v : kRgIt ws H = rangeW H ws := by exact rfl
@[simp] theorem kEnIt_v : kEnIt ws H = enumW H ws := by exact rfl
@[simp] theorem kZpIt_v : kZpIt ws H = zipW H ws := by exact rfl
@[simp] theorem itemsF_s : itemsF (some (x, H)) = (match seqV x with
    | some xs => .ok xs H
    | none => .stk) := by exact rfl
@[simp] theorem rangeW_1 {i : Int} : rangeW H [.v (.int i)] = if small62 i = true then .ok (upToV 0 i.toNat) H else .stk := by exact rfl
@[simp] theorem rangeW_2 {i j : Int} : rangeW H [.v (.int i), .v (.int j)] = if small62 i = true ∧ small62 j = true then .ok (upToV i (j - i).toNat) H else .stk := by exact rfl
@[simp] theorem rangeW_3 {i j k : Int} : rangeW H [.v (.int i), .v (.int j), .v (.int k)] = if k = -1 ∧ small62 i = true ∧ small62 j = true then .ok (dnToV i (i - j).toNat) H else .stk := by exact rfl
@[simp] theorem enumW_v : enumW H [w] = enumF (fzW w H) := by exact rfl
@[simp] theorem enumF_s : enumF (some (x, H)) = (match seqV x with
    | some xs => .ok (enV 0 xs) H
    | none => .stk) := by exact rfl
@[simp] theorem kSbW_v {fi : PE0} : kSbW w fi env a H = (fi env H).bind (kSbW2 w a env) := by exact rfl
@[simp] theorem kSbW2_v : kSbW2 w a env b H = stoW a b env (fzW w H) := by exact rfl
@[simp] theorem kNxW_v : kNxW env H = .ok (.nx env) H := by exact rfl
@[simp] theorem kAsgW_v {gg : PG0} : kAsgW gg env w H = (gg w env H).bind kNxW := by exact rfl
@[simp] theorem kSeqW_nx {f : PS0} : kSeqW f (.nx env) H = f env H := by exact rfl
@[simp] theorem kSeqW_rt {f : PS0} : kSeqW f (.rt w) H = .ok (.rt w) H := by exact rfl
@[simp] theorem kSeqW_bk {f : PS0} : kSeqW f (.bk env) H = .ok (.bk env) H := by exact rfl
@[simp] theorem kSeqW_ct {f : PS0} : kSeqW f (.ct env) H = .ok (.ct env) H := by exact rfl
@[simp] theorem kExprW_v : kExprW env w H = .ok (.nx env) H := by exact rfl
@[simp] theorem kRetW_v : kRetW w H = .ok (.rt w) H := by exact rfl
@[simp] theorem kParW_v {is : List Nat} : kParW is env ws H = (ofEnv (setAll is ws env) H).bind kNxW := by exact rfl
@[simp] theorem ofEnv_s : ofEnv (some env) H = .ok env H := by exact rfl
@[simp] theorem setAll_n : setAll [] [] env = some env := by exact rfl
@[simp] theorem setAll_c {is : List Nat} : setAll (i :: is) (w :: ws) env = setAll is ws (env.set i (some w)) := by exact rfl
@[simp] theorem comp_v {xs : List V0} : compW (.v (.tup xs)) = some (xs.map .v) := by exact rfl
@[simp] theorem comp_t : compW (.t ws) = some ws := by exact rfl
@[simp] theorem kAugW_v {pl : A2} {fe : PE0} : kAugW i pl fe env a H = (fe env H).bind (kAugW2 i pl env a) := by exact rfl
@[simp] theorem kAugW2_v {pl : A2} : kAugW2 i pl env a b H = (ofV (two (augV pl) (dvW H a) (dvW H b)) H).bind (kAugW3 i env) := by exact rfl
@[simp] theorem kAugW3_v : kAugW3 i env a H = .ok (.nx (env.set i (some a))) H := by exact rfl
@[simp] theorem augV_a {p q : Int} : augV .add (.int p) (.int q) = some (.int (p + q)) := by exact rfl
@[simp] theorem augV_s {p q : Int} : augV .sub (.int p) (.int q) = some (.int (p - q)) := by exact rfl
@[simp] theorem augV_m {p q : Int} : augV .mul (.int p) (.int q) = if mulOk p q = true then some (.int (p * q)) else none := by exact rfl
@[simp] theorem kFor0_v {gc : Bool} {gg : PG0} {f : PS0} {xs : List V0} : kFor0 gc gg f env xs H = forW gc gg f xs env H := by exact rfl
@[simp] theorem forW_n {gc : Bool} {gg : PG0} {f : PS0} : forW gc gg f [] env H = .ok (.nx env) H := by exact rfl
theorem forW_c {gc : Bool} {gg : PG0} {f : PS0} {xs : List V0} : forW gc gg f (x :: xs) env H = (gg (.v x) env H).bind (kForW1 gc H.length f (forW gc gg f xs)) := by exact rfl
@[simp] theorem kForW1_v {gc : Bool} {L : Nat} {f : PS0} {go : WEnv → Hot → Rs Fw0} : kForW1 gc L f go env H = (f env H).bind (kForW2 gc L go) := by exact rfl
@[simp] theorem kForW2_nx {gc : Bool} {L : Nat} {go : WEnv → Hot → Rs Fw0} : kForW2 gc L go (.nx env) H = gcS gc L go env H := by exact rfl
@[simp] theorem kForW2_ct {gc : Bool} {L : Nat} {go : WEnv → Hot → Rs Fw0} : kForW2 gc L go (.ct env) H = gcS gc L go env H := by exact rfl
@[simp] theorem kForW2_bk {gc : Bool} {L : Nat} {go : WEnv → Hot → Rs Fw0} : kForW2 gc L go (.bk env) H = .ok (.nx env) H := by exact rfl
@[simp] theorem kForW2_rt {gc : Bool} {L : Nat} {go : WEnv → Hot → Rs Fw0} : kForW2 gc L go (.rt w) H = .ok (.rt w) H := by exact rfl
@[simp] theorem gcS_f {L : Nat} {go : WEnv → Hot → Rs Fw0} : gcS false L go env H = go env H := by exact rfl
theorem gcS_t {L : Nat} {go : WEnv → Hot → Rs Fw0} (h : closedL L H = true) : gcS true L go env H = go (gcE L env) (H.take L) := by
  show (if closedL L H = true then _ else _) = _
  rw [if_pos h]
@[simp] theorem closedL_v {L : Nat} : closedL L H = (H.take L).all fun e => e.refs.all fun j => decide (j < L) := by exact rfl
@[simp] theorem gcE_n {L : Nat} : gcE L [] = [] := by exact rfl
def gcO (L : Nat) : Option W → Option W
  | none => none
  | some w => if refLt L w = true then some w else none
@[simp] theorem gcE_c {L : Nat} {q : Option W} : gcE L (q :: env) = gcO L q :: gcE L env := by cases q <;> rfl
@[simp] theorem gcO_n {L : Nat} : gcO L none = none := by exact rfl
@[simp] theorem gcO_v {L : Nat} : gcO L (some (.v x)) = some (.v x) := by exact rfl
@[simp] theorem gcO_r {L m : Nat} : gcO L (some (.r m)) = if m < L then some (.r m) else none := by
  show (if decide (m < L) = true then some (W.r m) else none) = _
  simp
@[simp] theorem gcO_t {L : Nat} : gcO L (some (.t ws)) = if refsLt L ws = true then some (.t ws) else none := by exact rfl
@[simp] theorem gcO_q {L m n : Nat} : gcO L (some (.q m n)) = if m < L then some (.q m n) else none := by
  show (if decide (m < L) = true then some (W.q m n) else none) = _
  simp
@[simp] theorem refs_n {L : Nat} : refsLt L [] = true := by exact rfl
@[simp] theorem refs_v {L : Nat} : refsLt L (.v x :: ws) = refsLt L ws := by
  show (true && refsLt L ws) = _
  simp
@[simp] theorem refs_r {L m : Nat} : refsLt L (.r m :: ws) = (decide (m < L) && refsLt L ws) := by exact rfl
@[simp] theorem lcW_n {gg : PG0} {tt : PT0} {fe : PE0} {acc : List V0} : lcW gg tt fe env [] acc H = .ok acc H := by exact rfl
theorem lcW_c {gg : PG0} {tt : PT0} {fe : PE0} {xs acc : List V0} : lcW gg tt fe env (x :: xs) acc H = (gg (.v x) env H).bind (kLcW1 (lcW gg tt fe env xs) tt fe acc) := by exact rfl
@[simp] theorem kLcW1_v {go : List V0 → Hot → Rs (List V0)} {tt : PT0} {fe : PE0} {acc : List V0} : kLcW1 go tt fe acc env H = (tt env H).bind (kLcW2 go fe acc env) := by exact rfl
@[simp] theorem kLcW2_v {go : List V0 → Hot → Rs (List V0)} {fe : PE0} {acc : List V0} {p : Bool} : kLcW2 go fe acc env p H = if p = true then (fe env H).bind (kLcW3 go acc) else go acc H := by exact rfl
@[simp] theorem kLcW3_v {go : List V0 → Hot → Rs (List V0)} {acc : List V0} : kLcW3 go acc w H = kLcW4 go acc (fzW w H) := by exact rfl
@[simp] theorem kLcW4_v {go : List V0 → Hot → Rs (List V0)} {acc : List V0} : kLcW4 go acc (some (x, H)) = if acc.length < sizeLine then go (acc ++ [x]) H else .stk := by exact rfl
@[simp] theorem wipe_n : wipeW env [] = env := by exact rfl
@[simp] theorem wipe_c {is : List Nat} : wipeW env (i :: is) = (wipeW env is).set i none := by exact rfl
/-! calls -/
@[simp] theorem arr_n {α : Type} {us ws ds : List α} : arr us ws ds [] = [] := by exact rfl
@[simp] theorem arr_p {α : Type} {us ws ds : List α} {n : Nat} {r : List PV.Src} : arr us ws ds (.pos n :: r) = (match us[n]? with
    | some x => x :: arr us ws ds r
    | none => arr us ws ds r) := by exact rfl
@[simp] theorem arr_k {α : Type} {us ws ds : List α} {n : Nat} {r : List PV.Src} : arr us ws ds (.kw n :: r) = (match ws[n]? with
    | some x => x :: arr us ws ds r
    | none => arr us ws ds r) := by exact rfl
@[simp] theorem arr_d {α : Type} {us ws ds : List α} {n : Nat} {r : List PV.Src} : arr us ws ds (.df n :: r) = (match ds[n]? with
    | some x => x :: arr us ws ds r
    | none => arr us ws ds r) := by exact rfl
@[simp] theorem callW_v {F : List W → Hot → Rs W} : callW F kp ws H = handW H (clo H (rens ws []).2) fun ids H' => finW kp ids H (F (rens ws []).1 H') := by exact rfl
theorem handW_v {α : Type} {is : List Nat} {f : List Nat → Hot → Rs α} : handW H is f = if closedB H is = true then f is (subH H is) else .stk := by exact rfl
@[simp] theorem handW_n {α : Type} {f : List Nat → Hot → Rs α} : handW H [] f = f [] [] := by exact rfl
@[simp] theorem handW_c {α : Type} {is : List Nat} {f : List Nat → Hot → Rs α} : handW H (i :: is) f = if closedB H (i :: is) = true then f (i :: is) (subH H (i :: is)) else .stk := by exact rfl
@[simp] theorem clo_n : clo H [] = [] := by exact rfl
@[simp] theorem clo_c {is : List Nat} : clo H (i :: is) = addR H (addR H (i :: is)) := by exact rfl
@[simp] theorem addR_v {is : List Nat} : addR H is = addN is (refsL H is) := by exact rfl
@[simp] theorem addN_n {is : List Nat} : addN is [] = is := by exact rfl
@[simp] theorem addN_c {is : List Nat} {l : List Nat} : addN is (j :: l) = addN (if is.contains j = true then is else is ++ [j]) l := by exact rfl
@[simp] theorem refsL_n : refsL H [] = [] := by exact rfl
@[simp] theorem refsL_c {is : List Nat} : refsL H (i :: is) = refsAt H i ++ refsL H is := by exact rfl
@[simp] theorem refsAt_v : refsAt H i = (match H[i]? with
  | some e => e.refs
  | none => []) := by exact rfl
@[simp] theorem refs_lst {vs : List V0} : HE.refs (.live (.lst vs)) = [] := by exact rfl
@[simp] theorem refs_ll {vs : List (List V0)} : HE.refs (.live (.ll vs)) = [] := by exact rfl
@[simp] theorem refs_dk {vs : List (Key × V0)} : HE.refs (.live (.dk vs)) = [] := by exact rfl
@[simp] theorem refs_dd {vs : List (TK × V0)} : HE.refs (.live (.dd vs)) = [] := by exact rfl
@[simp] theorem refs_cold : HE.refs (.cold x) = [] := by exact rfl
@[simp] theorem refs_gone : HE.refs .gone = [] := by exact rfl
@[simp] theorem refs_ins {cc : Str} {fs : List (Str × W)} : HE.refs (.live (.ins cc fs)) = refsF fs := by exact rfl
@[simp] theorem refsF_n : refsF [] = [] := by exact rfl
@[simp] theorem refsF_v {f : Str} {fs : List (Str × W)} : refsF ((f, .v x) :: fs) = refsF fs := by exact rfl
@[simp] theorem refsF_r {f : Str} {m : Nat} {fs : List (Str × W)} : refsF ((f, .r m) :: fs) = m :: refsF fs := by exact rfl
@[simp] theorem map_lst {f : Nat → Nat} {vs : List V0} : HE.mapR f (.live (.lst vs)) = .live (.lst vs) := by exact rfl
@[simp] theorem map_ll {f : Nat → Nat} {vs : List (List V0)} : HE.mapR f (.live (.ll vs)) = .live (.ll vs) := by exact rfl
@[simp] theorem map_dk {f : Nat → Nat} {vs : List (Key × V0)} : HE.mapR f (.live (.dk vs)) = .live (.dk vs) := by exact rfl
@[simp] theorem map_dd {f : Nat → Nat} {vs : List (TK × V0)} : HE.mapR f (.live (.dd vs)) = .live (.dd vs) := by exact rfl
@[simp] theorem map_cold {f : Nat → Nat} : HE.mapR f (.cold x) = .cold x := by exact rfl
@[simp] theorem map_gone {f : Nat → Nat} : HE.mapR f .gone = .gone := by exact rfl
@[simp] theorem map_ins {f : Nat → Nat} {cc : Str} {fs : List (Str × W)} : HE.mapR f (.live (.ins cc fs)) = .live (.ins cc (mapF f fs)) := by exact rfl
@[simp] theorem mapF_n {f : Nat → Nat} : mapF f [] = [] := by exact rfl
@[simp] theorem mapF_v {f : Nat → Nat} {g : Str} {fs : List (Str × W)} : mapF f ((g, .v x) :: fs) = (g, .v x) :: mapF f fs := by exact rfl
@[simp] theorem mapF_r {f : Nat → Nat} {g : Str} {m : Nat} {fs : List (Str × W)} : mapF f ((g, .r m) :: fs) = (g, .r (f m)) :: mapF f fs := by exact rfl
@[simp] theorem closedB_n : closedB H [] = true := by exact rfl
@[simp] theorem closedB_v {is : List Nat} : closedB H is = is.all fun i => (refsAt H i).all fun j => is.contains j := by exact rfl
@[simp] theorem subH_n : subH H [] = [] := by exact rfl
@[simp] theorem subH_v {is : List Nat} : subH H is = (subL H (.cold .non) is).map (HE.mapR (posD is)) := by exact rfl
@[simp] theorem posD_v {is : List Nat} {m : Nat} : posD is m = (posOf is m).getD 0 := by exact rfl
@[simp] theorem mrgH_n : mrgH H [] [] = H := by simp [mrgH, mrgL, putAll]
@[simp] theorem mrgH_v {is : List Nat} {H1 : Hot} : mrgH H is H1 = mrgL H is (H1.map (HE.mapR (bk is H.length))) := by exact rfl
@[simp] theorem cutH_self : cutH H.length H = H := by unfold cutH; split <;> simp
@[simp] theorem cutH_v {L : Nat} : cutH L H = if closedL L H = true then H.take L else H := by exact rfl
@[simp] theorem rens_n {is : List Nat} : rens [] is = ([], is) := by exact rfl
@[simp] theorem rens_c {is : List Nat} : rens (w :: ws) is = ((ren w is).1 :: (rens ws (ren w is).2).1, (rens ws (ren w is).2).2) := by exact rfl
@[simp] theorem ren_v {is : List Nat} : ren (.v x) is = (.v x, is) := by exact rfl
@[simp] theorem ren_r {is : List Nat} {m : Nat} : ren (.r m) is = (match posOf is m with
    | some j => (.r j, is)
    | none => (.r is.length, is ++ [m])) := by exact rfl
@[simp] theorem ren_q {is : List Nat} {m n : Nat} : ren (.q m n) is = (match posOf is m with
    | some j => (.q j n, is)
    | none => (.q is.length n, is ++ [m])) := by exact rfl
@[simp] theorem bkW_q {is : List Nat} {L j n : Nat} : bkW is L (.q j n) = .q (bk is L j) n := by exact rfl
@[simp] theorem ren_t {is : List Nat} : ren (.t ws) is = (.t (rens ws is).1, (rens ws is).2) := by exact rfl
@[simp] theorem pos_n {m : Nat} : posOf [] m = none := by exact rfl
@[simp] theorem pos_c {m q : Nat} {is : List Nat} : posOf (q :: is) m = if q = m then some 0 else (posOf is m).map (· + 1) := by exact rfl
@[simp] theorem subL_n {α : Type} {l : List α} {d : α} : subL l d [] = [] := by exact rfl
@[simp] theorem subL_c {α : Type} {l : List α} {d : α} {is : List Nat} : subL l d (i :: is) = l[i]?.getD d :: subL l d is := by exact rfl
@[simp] theorem finW_stk {is : List Nat} : finW kp is H .stk = .stk := by exact rfl
@[simp] theorem finW_t {is : List Nat} {H1 : Hot} : finW true is H (.ok w H1) = .ok (bkW is H.length w) (mrgH H is H1) := by exact rfl
@[simp] theorem finW_f {is : List Nat} {H1 : Hot} : finW false is H (.ok w H1) = finF H.length (fzW (bkW is H.length w) (mrgH H is H1)) := by exact rfl
@[simp] theorem finF_s {L : Nat} : finF L (some (x, H)) = .ok (.v x) (cutH L H) := by exact rfl
@[simp] theorem bkW_v {is : List Nat} {L : Nat} : bkW is L (.v x) = .v x := by exact rfl
@[simp] theorem bkW_r {is : List Nat} {L j : Nat} : bkW is L (.r j) = .r (bk is L j) := by exact rfl
@[simp] theorem bkW_t {is : List Nat} {L : Nat} : bkW is L (.t ws) = .t (bkWs is L ws) := by exact rfl
@[simp] theorem bkWs_n {is : List Nat} {L : Nat} : bkWs is L [] = [] := by exact rfl
@[simp] theorem bkWs_c {is : List Nat} {L : Nat} : bkWs is L (w :: ws) = bkW is L w :: bkWs is L ws := by exact rfl
@[simp] theorem bk_e {L j : Nat} : bk [] L j = L + j := by simp [bk]
@[simp] theorem bk_0 {L q : Nat} {is : List Nat} : bk (q :: is) L 0 = q := by simp [bk]
@[simp] theorem bk_1 {L q r : Nat} {is : List Nat} : bk (q :: r :: is) L 1 = r := by simp [bk]
@[simp] theorem bk_2 {L q r t : Nat} {is : List Nat} : bk (q :: r :: t :: is) L 2 = t := by simp [bk]
@[simp] theorem bk_3 {L q r t u : Nat} {is : List Nat} : bk (q :: r :: t :: u :: is) L 3 = u := by simp [bk]
@[simp] theorem bk_4 {L q r t u v : Nat} {is : List Nat} : bk (q :: r :: t :: u :: v :: is) L 4 = v := by simp [bk]
theorem bk_over {L k : Nat} {is : List Nat} (h : is.length ≤ k) : bk is L k = L + (k - is.length) := by unfold bk; rw [List.getElem?_eq_none h]; rfl
@[simp] theorem bk_s1 {L q : Nat} : bk [q] L 1 = L := by simp [bk]
@[simp] theorem bk_s2 {L q : Nat} : bk [q] L 2 = L + 1 := by simp [bk]
@[simp] theorem mrg_e {α : Type} {l l1 : List α} : mrgL l [] l1 = l ++ l1 := by simp [mrgL, putAll]
@[simp] theorem mrg_1 {α : Type} {l l1 : List α} {q : Nat} {h : α} : mrgL l [q] (h :: l1) = l.set q h ++ l1 := by simp [mrgL, putAll]
@[simp] theorem mrg_3 {α : Type} {l l1 : List α} {q r t : Nat} {h h' h'' : α} : mrgL l [q, r, t] (h :: h' :: h'' :: l1) = ((l.set q h).set r h').set t h'' ++ l1 := by simp [mrgL, putAll]
@[simp] theorem mrg_4 {α : Type} {l l1 : List α} {q r t u : Nat} {h h' h'' h3 : α} : mrgL l [q, r, t, u] (h :: h' :: h'' :: h3 :: l1) = (((l.set q h).set r h').set t h'').set u h3 ++ l1 := by simp [mrgL, putAll]
@[simp] theorem mrg_2 {α : Type} {l l1 : List α} {q r : Nat} {h h' : α} : mrgL l [q, r] (h :: h' :: l1) = (l.set q h).set r h' ++ l1 := by simp [mrgL, putAll]
@[simp] theorem endW_rt {L : Nat} : endW L (.ok (.rt w) H) = handW H (clo H (ren w (List.range L)).2) fun _ H' => .ok (ren w (List.range L)).1 H' := by exact rfl
@[simp] theorem endW_nx {L : Nat} : endW L (.ok (.nx env) H) = handW H (clo H (List.range L)) fun _ H' => .ok (.v .non) H' := by exact rfl
@[simp] theorem range_0 : List.range 0 = [] := by exact rfl
@[simp] theorem range_1 : List.range 1 = [0] := by exact rfl
@[simp] theorem range_2 : List.range 2 = [0, 1] := by exact rfl
@[simp] theorem range_3 : List.range 3 = [0, 1, 2] := by exact rfl
theorem run_w {nN np : Nat} {f : PS0} : runW nN np f ws H = if ws.length = np then endW H.length (f (ws.map some ++ List.replicate (nN - ws.length) none) H) else .stk := by exact rfl
@[simp] theorem runW0 {nN : Nat} {f : PS0} : runW nN 0 f [] H = endW H.length (f (List.replicate nN none) H) := by rw [run_w]; rfl
@[simp] theorem runW1 {nN : Nat} {f : PS0} : runW nN 1 f [a] H = endW H.length (f (some a :: List.replicate (nN - 1) none) H) := by rw [run_w]; rfl
@[simp] theorem runW2 {nN : Nat} {f : PS0} : runW nN 2 f [a, b] H = endW H.length (f (some a :: some b :: List.replicate (nN - 2) none) H) := by rw [run_w]; rfl
@[simp] theorem runW3 {nN : Nat} {f : PS0} : runW nN 3 f [a, b, c] H = endW H.length (f (some a :: some b :: some c :: List.replicate (nN - 3) none) H) := by rw [run_w]; rfl
@[simp] theorem runW4 {nN : Nat} {f : PS0} {d : W} : runW nN 4 f [a, b, c, d] H = endW H.length (f (some a :: some b :: some c :: some d :: List.replicate (nN - 4) none) H) := by rw [run_w]; rfl
@[simp] theorem runW5 {nN : Nat} {f : PS0} {d w5 : W} : runW nN 5 f [a, b, c, d, w5] H = endW H.length (f (some a :: some b :: some c :: some d :: some w5 :: List.replicate (nN - 5) none) H) := by rw [run_w]; rfl
/-! lists that are written -/
@[simp] theorem lstH_v {m : Nat} : lstH H m = (match H[m]? with
  | some (.live (.lst vs)) => some vs
  | _ => none) := by exact rfl
@[simp] theorem appW_s {m : Nat} : appW m (some (x, H)) = (match lstH H m with
    | some vs => if vs.length < sizeLine then .ok (.v .non) (H.set m (.live (.lst (vs ++ [x])))) else .stk
    | none => .stk) := by exact rfl
@[simp] theorem extW_s {m : Nat} {ys : List V0} : extW m H (some (.lst ys)) = (match lstH H m with
    | some vs => if vs.length + ys.length ≤ sizeLine then .ok (.v .non) (H.set m (.live (.lst (vs ++ ys)))) else .stk
    | none => .stk) := by exact rfl
theorem popW_n {m : Nat} {vs : List V0} {y : V0} (h : lstH H m = some (vs ++ [y])) : popW m H [] = .ok (.v y) (H.set m (.live (.lst vs))) := by
  unfold popW
  rw [h]
  simp
end
end PV

set_option Elab.async false
set_option linter.all false
set_option maxRecDepth 100000
set_option maxHeartbeats 3999000
namespace PV
open L2 PyProof.Rows PySem PySem.Spec

/-! ### the end of a def -/
def EndP (L : Nat) (Q : W → Hot → Prop) : Fw0 → Hot → Prop
  | .rt w, H => closedB H (clo H (ren w (List.range L)).2) = true ∧ Q (ren w (List.range L)).1 (subH H (clo H (ren w (List.range L)).2))
  | .nx _, H => closedB H (clo H (List.range L)) = true ∧ Q (.v .non) (subH H (clo H (List.range L)))
  | _, _ => False
theorem okw_if {α : Type} {c : Prop} [Decidable c] {o : Rs α} {Q : α → Hot → Prop} : OkW (if c then o else .stk) Q ↔ c ∧ OkW o Q := by
  split
  · rename_i h; exact ⟨fun q => ⟨h, q⟩, fun q => q.2⟩
  · rename_i h; exact ⟨fun q => q.elim, fun q => (h q.1).elim⟩
@[simp] theorem okw_hand {α : Type} {H : Hot} {is : List Nat} {f : List Nat → Hot → Rs α} {Q : α → Hot → Prop} : OkW (handW H is f) Q ↔ closedB H is = true ∧ OkW (f is (subH H is)) Q := okw_if
@[simp] theorem okw_end {L : Nat} {o : Rs Fw0} {Q : W → Hot → Prop} : OkW (endW L o) Q ↔ OkW o (EndP L Q) := by
  cases o with
  | ok fl H => cases fl <;> first | exact Iff.rfl | exact okw_if
  | exc x H => exact okw_if.trans ⟨fun q => q.2.elim, fun q => q.elim⟩
  | stk => exact Iff.rfl
@[simp] theorem EndP_rt {L : Nat} {Q : W → Hot → Prop} {w : W} {H : Hot} : EndP L Q (.rt w) H = (closedB H (clo H (ren w (List.range L)).2) = true ∧ Q (ren w (List.range L)).1 (subH H (clo H (ren w (List.range L)).2))) := by exact rfl
@[simp] theorem EndP_nx {L : Nat} {Q : W → Hot → Prop} {e : WEnv} {H : Hot} : EndP L Q (.nx e) H = (closedB H (clo H (List.range L)) = true ∧ Q (.v .non) (subH H (clo H (List.range L)))) := by exact rfl

/-! ### loops -/
def gcP (gc : Bool) (L : Nat) (J : WEnv → Hot → Prop) (env : WEnv) (H : Hot) : Prop := match gc with
  | true => if closedL L H = true then J (gcE L env) (H.take L) else J env H
  | false => J env H
def FwW (gc : Bool) (L : Nat) (J : WEnv → Hot → Prop) (Q : Fw0 → Hot → Prop) : Fw0 → Hot → Prop
  | .nx e, H => gcP gc L J e H
  | .ct e, H => gcP gc L J e H
  | .bk e, H => Q (.nx e) H
  | .rt w, H => Q (.rt w) H
section
variable {J : WEnv → Hot → Prop} {Q : Fw0 → Hot → Prop} {e : WEnv} {H : Hot} {w : W} {gc : Bool} {L : Nat}
@[simp] theorem FwW_nx : FwW gc L J Q (.nx e) H = gcP gc L J e H := by exact rfl
@[simp] theorem FwW_ct : FwW gc L J Q (.ct e) H = gcP gc L J e H := by exact rfl
@[simp] theorem FwW_bk : FwW gc L J Q (.bk e) H = Q (.nx e) H := by exact rfl
@[simp] theorem FwW_rt : FwW gc L J Q (.rt w) H = Q (.rt w) H := by exact rfl
@[simp] theorem gcP_t : gcP true L J e H = if closedL L H = true then J (gcE L e) (H.take L) else J e H := by exact rfl
@[simp] theorem gcP_f : gcP false L J e H = J e H := by exact rfl
theorem gcS_ok {go : WEnv → Hot → Rs Fw0} (h : gcP gc L (fun e H => OkW (go e H) Q) e H) : OkW (gcS gc L go e H) Q := by
  cases gc with
  | false => exact h
  | true =>
    have h : (if closedL L H = true then OkW (go (gcE L e) (H.take L)) Q else OkW (go e H) Q) := h
    show OkW (if closedL L H = true then _ else _) Q
    split at h
    · rename_i hc; rw [if_pos hc]; exact h
    · rename_i hc; rw [if_neg hc]; exact h
theorem gcP.mono {J' : WEnv → Hot → Prop} (h : gcP gc L J e H) (hm : ∀ e H, J e H → J' e H) : gcP gc L J' e H := by
  cases gc with
  | false => exact hm _ _ h
  | true =>
    have h : (if closedL L H = true then J (gcE L e) (H.take L) else J e H) := h
    show (if closedL L H = true then J' (gcE L e) (H.take L) else J' e H)
    split at h
    · rename_i hc; rw [if_pos hc]; exact hm _ _ h
    · rename_i hc; rw [if_neg hc]; exact hm _ _ h
theorem FwW.on {go : WEnv → Hot → Rs Fw0} {fl : Fw0} (h : FwW gc L (fun e H => OkW (go e H) Q) Q fl H) : OkW (kForW2 gc L go fl H) Q := by
  cases fl with
  | nx e => exact gcS_ok h
  | ct e => exact gcS_ok h
  | bk e => exact h
  | rt w => exact h
theorem FwW.mono {J' : WEnv → Hot → Prop} {fl : Fw0} (h : FwW gc L J Q fl H) (hm : ∀ e H, J e H → J' e H) : FwW gc L J' Q fl H := by
  cases fl with
  | nx e => exact gcP.mono h hm
  | ct e => exact gcP.mono h hm
  | bk e => exact h
  | rt w => exact h
end
theorem for_okw {gc : Bool} {g : PG0} {b : PS0} {Q : Fw0 → Hot → Prop} : ∀ {xs : List V0} {env : WEnv} {H : Hot} (I : Nat → WEnv → Hot → Prop), I 0 env H →
    (∀ i env H (h : i < xs.length), I i env H → ∀ J : WEnv → Hot → Prop, (∀ e H', I (i + 1) e H' → J e H') → OkW (g (.v xs[i]) env H) (ThW b (FwW gc H.length J Q))) →
    (∀ env H, I xs.length env H → Q (.nx env) H) → OkW (forW gc g b xs env H) Q
  | [], env, H, I, h, hs, hd => hd env H h
  | x :: r, env, H, I, h, hs, hd => by
    rw [forW_c, okw_bind]
    refine (hs 0 env H (by simp) h (fun e H => OkW (forW gc g b r e H) Q) fun e H' hI => ?_).mono fun e1 H1 h1 => ?_
    · refine for_okw (fun i => I (i + 1)) hI (fun i env H hi hI J hJ => ?_) (fun env H hI => hd env H (by simpa using hI))
      exact hs (i + 1) env H (by simpa using hi) hI J hJ
    · rw [thw, kForW1_v, okw_bind]
      exact OkW.mono (thw.mp h1) fun fl H2 h2 => h2.on
theorem upToV_len : ∀ (n : Nat) (lo : Int), (upToV lo n).length = n
  | 0, _ => rfl
  | n + 1, lo => by rw [upToV, List.length_cons, upToV_len n]
theorem upToV_get : ∀ (n : Nat) (lo : Int) (i : Nat), i < n → (upToV lo n)[i]? = some (.int (lo + i))
  | 0, _, _, h => absurd h (Nat.not_lt_zero _)
  | n + 1, lo, 0, _ => by simp [upToV]
  | n + 1, lo, i + 1, h => by
    rw [upToV, List.getElem?_cons_succ, upToV_get n (lo + 1) i (Nat.lt_of_succ_lt_succ h)]
    congr 2
    omega
/-- a range -/
theorem for_upto {gc : Bool} {g : PG0} {b : PS0} {Q : Fw0 → Hot → Prop} {m : Nat} {lo : Int} {env : WEnv} {H : Hot} (I : Nat → WEnv → Hot → Prop) (h : I 0 env H)
    (hs : ∀ i env H (h : i < m), I i env H → ∀ J : WEnv → Hot → Prop, (∀ e H', I (i + 1) e H' → J e H') → OkW (g (.v (.int (lo + (i : Nat)))) env H) (ThW b (FwW gc H.length J Q)))
    (hd : ∀ env H, I m env H → Q (.nx env) H) : OkW (forW gc g b (upToV lo m) env H) Q := by
  have el : (upToV lo m).length = m := upToV_len m lo
  refine for_okw I h (fun i env S hi hI J hJ => ?_) (fun env S hI => hd env S (by rw [el] at hI; exact hI))
  have hi' : i < m := by rw [el] at hi; exact hi
  have e : (upToV lo m)[i] = .int (lo + (i : Nat)) := by
    have := upToV_get m lo i hi'
    rw [List.getElem?_eq_getElem hi] at this
    exact Option.some.inj this
  rw [e]
  exact hs i env S hi' hI J hJ
/-- over a list of known things -/
theorem for_map {α : Type} {f : α → V0} {gc : Bool} {g : PG0} {b : PS0} {Q : Fw0 → Hot → Prop} {xs : List α} {env : WEnv} {H : Hot} (I : Nat → WEnv → Hot → Prop) (h : I 0 env H)
    (hs : ∀ i env H (h : i < xs.length), I i env H → ∀ J : WEnv → Hot → Prop, (∀ e H', I (i + 1) e H' → J e H') → OkW (g (.v (f xs[i])) env H) (ThW b (FwW gc H.length J Q)))
    (hd : ∀ env H, I xs.length env H → Q (.nx env) H) : OkW (forW gc g b (xs.map f) env H) Q := by
  refine for_okw I h (fun i env S hi hI J hJ => ?_) (fun env S hI => hd env S (by simpa using hI))
  rw [List.getElem_map]
  exact hs i env S (by simpa using hi) hI J hJ
/-- while: what is told of the test, then of the body -/
def WhW (gc : Bool) (L : Nat) (b : PS0) (env : WEnv) (J : WEnv → Hot → Prop) (Q : Fw0 → Hot → Prop) : Bool → Hot → Prop := fun c H => if c = true then OkW (b env H) (FwW gc L J Q) else Q (.nx env) H
@[simp] theorem WhW_v {gc : Bool} {L : Nat} {b : PS0} {env : WEnv} {J : WEnv → Hot → Prop} {Q : Fw0 → Hot → Prop} {c : Bool} {H : Hot} : WhW gc L b env J Q c H ↔ if c = true then OkW (b env H) (FwW gc L J Q) else Q (.nx env) H := by exact Iff.rfl
theorem wh_okw {gc : Bool} {t : PT0} {b : PS0} {Q : Fw0 → Hot → Prop} (I : Nat → WEnv → Hot → Prop)
    (hs : ∀ m env H, I m env H → ∀ J : WEnv → Hot → Prop, (∀ m' e H', m' < m → I m' e H' → J e H') → OkW (t env H) (WhW gc H.length b env J Q)) :
    ∀ (k m : Nat) (env : WEnv) (H : Hot), m < k → I m env H → OkW (whW gc t b k env H) Q
  | 0, m, _, _, h, _ => absurd h (Nat.not_lt_zero _)
  | k + 1, m, env, H, h, hI => by
    show OkW ((t env H).bind (kWhW gc H.length b (whW gc t b k) env)) Q
    rw [okw_bind]
    refine (hs m env H hI (fun e H' => OkW (whW gc t b k e H') Q) fun m' e H' hm hI' => wh_okw I hs k m' e H' (by omega) hI').mono fun c H1 h1 => ?_
    show OkW (if c = true then (b env H1).bind (kForW2 gc H.length (whW gc t b k)) else .ok (.nx env) H1) Q
    unfold WhW at h1
    split
    · rw [if_pos ‹_›] at h1
      rw [okw_bind]
      exact h1.mono fun fl H2 h2 => h2.on
    · rw [if_neg ‹_›] at h1
      exact h1
theorem while_okw {gc : Bool} {t : PT0} {b : PS0} {Q : Fw0 → Hot → Prop} {env : WEnv} {H : Hot} (I : Nat → WEnv → Hot → Prop) (m : Nat) (hm : m < wTurns) (h : I m env H)
    (hs : ∀ m env H, I m env H → ∀ J : WEnv → Hot → Prop, (∀ m' e H', m' < m → I m' e H' → J e H') → OkW (t env H) (WhW gc H.length b env J Q)) : OkW (whW gc t b wTurns env H) Q :=
  wh_okw I hs wTurns m env H hm h

/-! ### the last of a list taken off -/
section
variable {A : List V0} {y : V0} {a b c : HE} {t : Hot}
@[simp] theorem popW_0 : popW 0 (.live (.lst (A ++ [y])) :: t) [] = .ok (.v y) (.live (.lst A) :: t) := popW_n rfl
@[simp] theorem popW_1 : popW 1 (a :: .live (.lst (A ++ [y])) :: t) [] = .ok (.v y) (a :: .live (.lst A) :: t) := popW_n rfl
@[simp] theorem popW_2 : popW 2 (a :: b :: .live (.lst (A ++ [y])) :: t) [] = .ok (.v y) (a :: b :: .live (.lst A) :: t) := popW_n rfl
@[simp] theorem popW_3 : popW 3 (a :: b :: c :: .live (.lst (A ++ [y])) :: t) [] = .ok (.v y) (a :: b :: c :: .live (.lst A) :: t) := popW_n rfl
end
/-! ### comprehensions: map and filter -/
theorem lc_map {α : Type} {f : α → V0} {F : α → V0} {p : α → Bool} {E : α → WEnv} {g : PG0} {t : PT0} {fe : PE0} {env : WEnv} {H : Hot} : ∀ {xs : List α} {acc : List V0}, acc.length + xs.length ≤ 16777216 →
    (∀ a ∈ xs, g (.v (f a)) env H = .ok (E a) H ∧ t (E a) H = .ok (p a) H ∧ (p a = true → fe (E a) H = .ok (.v (F a)) H)) → lcW g t fe env (xs.map f) acc H = .ok (acc ++ (xs.filter p).map F) H
  | [], acc, _, _ => by simp
  | a :: r, acc, hz, h => by
    obtain ⟨h1, h2, h3⟩ := h a (List.mem_cons_self ..)
    have hz' : sizeLine = 16777216 := rfl
    simp only [List.length_cons] at hz
    rw [List.map_cons, lcW_c, h1, rb_ok, kLcW1_v, h2, rb_ok, kLcW2_v]
    cases hp : p a with
    | true =>
      rw [if_pos rfl, h3 hp, rb_ok, kLcW3_v, fzW_v, kLcW4_v, if_pos (by omega)]
      rw [lc_map (xs := r) (acc := acc ++ [F a]) (by simp; omega) fun b hb => h b (List.mem_cons_of_mem _ hb)]
      simp [List.filter_cons, hp]
    | false =>
      rw [if_neg (by simp)]
      rw [lc_map (xs := r) (acc := acc) (by omega) fun b hb => h b (List.mem_cons_of_mem _ hb)]
      simp [List.filter_cons, hp]
theorem lc_all {α : Type} {f : α → V0} {F : α → V0} {E : α → WEnv} {g : PG0} {t : PT0} {fe : PE0} {env : WEnv} {H : Hot} {xs : List α} (hz : xs.length ≤ 16777216)
    (h : ∀ a ∈ xs, g (.v (f a)) env H = .ok (E a) H ∧ t (E a) H = .ok true H ∧ fe (E a) H = .ok (.v (F a)) H) : lcW g t fe env (xs.map f) [] H = .ok (xs.map F) H := by
  have := lc_map (f := f) (F := F) (p := fun _ => true) (E := E) (g := g) (t := t) (fe := fe) (env := env) (H := H) (xs := xs) (acc := []) (by simpa using hz) fun a ha => let ⟨a1, a2, a3⟩ := h a ha; ⟨a1, a2, fun _ => a3⟩
  have hf : xs.filter (fun _ => true) = xs := List.filter_eq_self.mpr fun _ _ => rfl
  rw [hf] at this
  simpa using this
/-- [.. for x in ..] -/
theorem okw_lc {α : Type} {C : WFns} {i : Nat} {f : α → V0} {t : PT0} {fe : PE0} {env : WEnv} {H : Hot} {xs : List α} {Q : List V0 → Hot → Prop} (p : α → Bool) (F : α → V0) (hz : xs.length ≤ 16777216)
    (h : ∀ a ∈ xs, t (env.set i (some (.v (f a)))) H = .ok (p a) H ∧ (p a = true → fe (env.set i (some (.v (f a)))) H = .ok (.v (F a)) H)) (hQ : Q ((xs.filter p).map F) H) : OkW (lcW (GX.w C (.nm i)) t fe env (xs.map f) [] H) Q := by
  rw [lc_map (F := F) (p := p) (E := fun a => env.set i (some (.v (f a)))) (by simpa using hz) fun a ha => ⟨rfl, (h a ha).1, (h a ha).2⟩]
  simpa using hQ
/-- [.. for x, y in ..] -/
theorem okw_lc2 {α : Type} {C : WFns} {i j : Nat} {f g : α → V0} {t : PT0} {fe : PE0} {env : WEnv} {H : Hot} {xs : List α} {Q : List V0 → Hot → Prop} (p : α → Bool) (F : α → V0) (hz : xs.length ≤ 16777216)
    (h : ∀ a ∈ xs, t ((env.set i (some (.v (f a)))).set j (some (.v (g a)))) H = .ok (p a) H ∧ (p a = true → fe ((env.set i (some (.v (f a)))).set j (some (.v (g a)))) H = .ok (.v (F a)) H)) (hQ : Q ((xs.filter p).map F) H) :
    OkW (lcW (GX.w C (.tp [i, j])) t fe env (xs.map fun a => .tup [f a, g a]) [] H) Q := by
  rw [lc_map (F := F) (p := p) (E := fun a => (env.set i (some (.v (f a)))).set j (some (.v (g a)))) (by simpa using hz) fun a ha => ⟨rfl, (h a ha).1, (h a ha).2⟩]
  simpa using hQ
theorem enV_map (xs : List V0) (k : Nat) : enV k xs = (xs.zipIdx k).map fun p => .tup [.int (p.2 : Nat), p.1] := by
  induction xs generalizing k with
  | nil => rfl
  | cons x r ih => simp [enV, ih, List.zipIdx_cons]
theorem upToV_map (lo : Int) (n : Nat) : upToV lo n = (List.range n).map fun (i : Nat) => .int (lo + (i : Nat)) := by
  apply List.ext_getElem?
  intro i
  by_cases h : i < n
  · rw [upToV_get n lo i h]
    simp [h]
  · rw [List.getElem?_eq_none (by rw [upToV_len]; omega), List.getElem?_eq_none (by simp; omega)]

/-! ### the script's head -/
theorem cut_map {α β : Type} (f : α → β) (l : List α) (lo hi : Option Int) : cutG (l.map f) lo hi = (cutG l lo hi).map f := by
  unfold cutG
  rw [List.length_map, List.map_take, List.map_drop]
theorem head_eq (ns : List Int) (lo hi : Option Int) : cutG (ns.map V0.int ++ [V0.int 0]) lo hi = (cutG (ns ++ [0]) lo hi).map V0.int := by
  rw [← cut_map]
  simp
theorem cut_len {α : Type} (l : List α) (lo hi : Option Int) : (cutG l lo hi).length ≤ l.length := by
  unfold cutG
  simp
  omega
/-! ### numbers -/
theorem mulOk_of (m : Nat) {k : Nat} {i j : Int} (hm : m + k ≤ 134217728 := by decide) (hi : i.natAbs < 2 ^ m) (hj : j.natAbs < 2 ^ k) : mulOk i j = true := by
  have bl : ∀ {i : Int} {m : Nat}, i.natAbs < 2 ^ m → Builtin.Int.intBits i ≤ m := fun {i m} h => by
    unfold Builtin.Int.intBits
    split
    · omega
    · rename_i h0
      have : i.natAbs ≠ 0 := by
        intro z
        have : i = 0 := by omega
        rw [this] at h0
        exact h0 rfl
      have := (Nat.log2_lt this).mpr h
      omega
  have a := bl hi
  have b := bl hj
  unfold mulOk
  rw [decide_eq_true_eq]
  omega
theorem mulOk_s {i j : Int} (hi : i.natAbs < 2 ^ 200) (hj : j.natAbs < 2 ^ 200) : mulOk i j = true := mulOk_of 200 (k := 200) (by decide) hi hj
theorem fdiv_c {j : Int} (h : 0 < j) (hb : j < 2 ^ 200) : 0 < j ∧ j.natAbs.log2 < 9000 := by
  refine ⟨h, ?_⟩
  have h0 : j.natAbs ≠ 0 := by omega
  have : j.natAbs < 2 ^ 200 := by
    have e : ((2 ^ 200 : Nat) : Int) = (2 ^ 200 : Int) := by simp
    have : (j.natAbs : Int) < ((2 ^ 200 : Nat) : Int) := by rw [e]; rw [show ((j.natAbs : Nat) : Int) = j by omega]; exact hb
    exact Int.ofNat_lt.mp this
  have := (Nat.log2_lt h0).mpr this
  omega
@[simp] theorem s_fdivc {i j : Int} (h : 0 < j) (hb : j < 1606938044258990275541962092341162602522202993782792835301376) : B2.s .fdiv (.int i) (.int j) = some (.int (i / j)) := by rw [s_fdiv, if_pos (fdiv_c h (by omega))]
@[simp] theorem s_modc {i j : Int} (h : 0 < j) : B2.s .mod (.int i) (.int j) = some (.int (i % j)) := by rw [s_mod, if_pos h]
@[simp] theorem s_shrc {i j : Int} (h : 0 ≤ j) : B2.s .shr (.int i) (.int j) = some (.int (i / 2 ^ j.toNat)) := by rw [s_shr, if_pos h]
@[simp] theorem s_shl1 {j : Int} (h : 0 ≤ j) (h2 : j ≤ 1000) : B2.s .shl (.int 1) (.int j) = some (.int (2 ^ j.toNat)) := by
  rw [s_shl, if_pos, Int.one_mul]
  refine ⟨h, ?_⟩
  have : Builtin.Int.intBits 1 = 1 := by decide
  rw [this]
  omega
@[simp] theorem s_pow2 {j : Int} (h : 0 ≤ j) (h2 : j ≤ 1000) : B2.s .pow (.int 2) (.int j) = some (.int (2 ^ j.toNat)) := by
  rw [s_pow, if_pos]
  unfold powOk
  rw [decide_eq_true_eq]
  have : Builtin.Int.intBits 2 = 2 := by decide
  rw [this]
  omega
theorem s_sq {i : Int} (hi : i.natAbs < 2 ^ 200) : B2.s .pow (.int i) (.int 2) = some (.int (i * i)) := by
  have bl : Builtin.Int.intBits i ≤ 200 := by
    unfold Builtin.Int.intBits
    split
    · omega
    · rename_i h0
      have : i.natAbs ≠ 0 := by
        intro z
        have : i = 0 := by omega
        rw [this] at h0
        exact h0 rfl
      have := (Nat.log2_lt this).mpr hi
      omega
  have : powOk i 2 = true := by
    unfold powOk
    rw [decide_eq_true_eq]
    omega
  rw [s_pow, if_pos this]
  congr 2
  show i ^ 2 = i * i
  rw [Int.pow_succ, Int.pow_succ, Int.pow_zero, Int.one_mul]
theorem pw_lit {i : Int} (n : Nat) (h : powOk i (n : Int) = true) : B2.s .pow (.int i) (.int (n : Int)) = some (.int (i ^ n)) := by
  rw [s_pow, if_pos h, Int.toNat_natCast]
@[simp] theorem p_10_9 : B2.s .pow (.int 10) (.int 9) = some (.int 1000000000) := pw_lit 9 (by decide)
@[simp] theorem p_10_18 : B2.s .pow (.int 10) (.int 18) = some (.int 1000000000000000000) := pw_lit 18 (by decide)
@[simp] theorem p_10_30 : B2.s .pow (.int 10) (.int 30) = some (.int 1000000000000000000000000000000) := pw_lit 30 (by decide)
@[simp] theorem p_10_31 : B2.s .pow (.int 10) (.int 31) = some (.int 10000000000000000000000000000000) := pw_lit 31 (by decide)
theorem mul_bd {p q : Nat} {a b : Int} (ha : a.natAbs < 2 ^ p) (hb : b.natAbs < 2 ^ q) : (a * b).natAbs < 2 ^ (p + q) := by
  rw [Int.natAbs_mul, Nat.pow_add]
  exact Nat.mul_lt_mul'' ha hb
theorem atI_n {α : Type} {xs : List α} {n : Nat} : atI xs (n : Int) = xs[n]? := by
  unfold atI ixN
  rw [if_pos (by omega)]
  split
  · simp
  · rename_i h
    have h : ¬ n < xs.length := by omega
    simp only [Option.bind_none]
    rw [List.getElem?_eq_none (by omega)]
@[simp] theorem atI_0 {α : Type} {xs : List α} : atI xs 0 = xs[0]? := atI_n (n := 0)
@[simp] theorem atI_1 {α : Type} {xs : List α} : atI xs 1 = xs[1]? := atI_n (n := 1)
@[simp] theorem atI_2 {α : Type} {xs : List α} : atI xs 2 = xs[2]? := atI_n (n := 2)
@[simp] theorem atI_3 {α : Type} {xs : List α} : atI xs 3 = xs[3]? := atI_n (n := 3)
@[simp] theorem atI_4 {α : Type} {xs : List α} : atI xs 4 = xs[4]? := atI_n (n := 4)
@[simp] theorem atI_5 {α : Type} {xs : List α} : atI xs 5 = xs[5]? := atI_n (n := 5)
end PV

set_option Elab.async false
set_option linter.all false
set_option maxRecDepth 100000
set_option maxHeartbeats 3999000
namespace PV
open L2 PyProof.Rows PySem PySem.Spec

/-! ### texts -/
def X_is_integer : SX :=
 (.seq (.ret (.and (.cb .isi true (.cons (.var 0) (.cons (.c (.ty "int")) .nil))) (.not (.cb .isi false (.cons (.var 0) (.cons (.c (.ty "bool")) .nil))))))
 .nil)

def X_is_between : SX :=
 (.seq (.ret (.and (.call true "is_integer" [.pos 0] [] (.cons (.var 0) .nil) .nil) (.ch (.ord .le) (.ord .le) (.var 1) (.var 0) (.var 2))))
 .nil)

def X_is_coordinate : SX :=
 (.seq (.ret (.call true "is_between" [.pos 0, .pos 1, .pos 2] [] (.cons (.var 0) (.cons (.neg (.c (.int 1000000000000000000000000000000))) (.cons (.c (.int 1000000000000000000000000000000)) .nil))) .nil))
 .nil)

def X_is_point : SX :=
 (.seq (.ret (.and (.cb .isi true (.cons (.var 0) (.cons (.c (.ty "tuple")) .nil))) (.and (.bin .eq false (.cb .len false (.cons (.var 0) .nil)) (.c (.int 2))) (.and (.call true "is_coordinate" [.pos 0] [] (.cons (.bin .ix false (.var 0) (.c (.int 0))) .nil) .nil) (.call true "is_coordinate" [.pos 0] [] (.cons (.bin .ix false (.var 0) (.c (.int 1))) .nil) .nil)))))
 .nil)

def X_require_point : SX :=
 (.seq (.if_ (.not (.val (.call false "is_point" [.pos 0] [] (.cons (.var 0) .nil) .nil)))
 (.seq .stk
 .nil)
 .nil)
 .nil)

def X_is_interval : SX :=
 (.seq (.if_ (.not (.val (.cb .all false (.cons (.lc false [2] (.seq (.tup (.cons (.var 0) (.cons (.var 1) .nil)))) (.nm 2) .yes (.or (.bin .is false (.var 2) (.c .non)) (.call false "is_between" [.pos 0, .pos 1, .pos 2] [] (.cons (.var 2) (.cons (.neg (.c (.int 10000000000000000000000000000000))) (.cons (.c (.int 10000000000000000000000000000000)) .nil))) .nil))) .nil))))
 (.seq (.ret (.c (.bl false)))
 .nil)
 .nil)
 (.seq (.ret (.or (.bin .is false (.var 0) (.c .non)) (.or (.bin .is false (.var 1) (.c .non)) (.bin (.ord .le) false (.var 0) (.var 1)))))
 .nil))

def X_is_rectangle : SX :=
 (.seq (.if_ (.or (.not (.val (.cb .isi false (.cons (.var 0) (.cons (.c (.ty "tuple")) .nil))))) (.tb (.bin .ne false (.cb .len false (.cons (.var 0) .nil)) (.c (.int 4)))))
 (.seq (.ret (.c (.bl false)))
 .nil)
 .nil)
 (.seq (.ret (.and (.call true "is_interval" [.pos 0, .pos 1] [] (.cons (.bin .ix false (.var 0) (.c (.int 0))) (.cons (.bin .ix false (.var 0) (.c (.int 2))) .nil)) .nil) (.call true "is_interval" [.pos 0, .pos 1] [] (.cons (.bin .ix false (.var 0) (.c (.int 1))) (.cons (.bin .ix false (.var 0) (.c (.int 3))) .nil)) .nil)))
 .nil))

def X_require_rectangle : SX :=
 (.seq (.if_ (.not (.val (.call false "is_rectangle" [.pos 0] [] (.cons (.var 0) .nil) .nil)))
 (.seq .stk
 .nil)
 .nil)
 .nil)

def X_holds : SX :=
 (.seq (.for_ false (.seq (.tup (.cons (.c (.int 0)) (.cons (.c (.int 1)) .nil)))) (.nm 2)
 (.seq (.par 3 4 (.cons (.bin .ix false (.var 0) (.var 2)) (.cons (.bin .ix false (.var 0) (.bin .add false (.var 2) (.c (.int 2)))) .nil)))
 (.seq (.if_ (.or (.and (.tb (.bin .isNot false (.var 3) (.c .non))) (.tb (.bin (.ord .lt) false (.bin .ix false (.var 1) (.var 2)) (.var 3)))) (.and (.tb (.bin .isNot false (.var 4) (.c .non))) (.tb (.bin (.ord .gt) false (.bin .ix false (.var 1) (.var 2)) (.var 4)))))
 (.seq (.ret (.c (.bl false)))
 .nil)
 .nil)
 .nil)))
 (.seq (.ret (.c (.bl true)))
 .nil))

def X_gap_of : SX :=
 (.seq (.asg (.c (.int 0)) (.nm 2))
 (.seq (.for_ false (.seq (.tup (.cons (.c (.int 0)) (.cons (.c (.int 1)) .nil)))) (.nm 3)
 (.seq (.par 4 5 (.cons (.bin .ix false (.var 1) (.var 3)) (.cons (.bin .ix false (.var 1) (.bin .add false (.var 3) (.c (.int 2)))) .nil)))
 (.seq (.if_ (.and (.tb (.bin .isNot false (.var 4) (.c .non))) (.tb (.bin (.ord .lt) false (.bin .ix false (.var 0) (.var 3)) (.var 4))))
 (.seq (.aug 2 .add (.bin .pow false (.bin .sub false (.var 4) (.bin .ix false (.var 0) (.var 3))) (.c (.int 2))))
 .nil)
 .nil)
 (.seq (.if_ (.and (.tb (.bin .isNot false (.var 5) (.c .non))) (.tb (.bin (.ord .gt) false (.bin .ix false (.var 0) (.var 3)) (.var 5))))
 (.seq (.aug 2 .add (.bin .pow false (.bin .sub false (.bin .ix false (.var 0) (.var 3)) (.var 5)) (.c (.int 2))))
 .nil)
 .nil)
 .nil))))
 (.seq (.ret (.var 2))
 .nil)))

def X__law_mixed : SX :=
 (.seq (.asg (.bin .mod false (.cb .int false (.cons (.bin .mul false (.bin .add false (.bin .mod false (.cb .int false (.cons (.var 0) .nil)) (.c (.int 2147483646))) (.c (.int 1))) (.bin .add false (.bin .mul false (.var 1) (.c (.int 7919))) (.c (.int 104729)))) .nil)) (.c (.int 2147483647))) (.nm 2))
 (.seq (.asg (.bin .mod false (.cb .int false (.cons (.bin .mul false (.bin .add false (.var 2) (.bin .mul false (.bin .mod false (.cb .int false (.cons (.bin .fdiv false (.var 0) (.c (.int 2147483646))) .nil)) (.c (.int 1000003))) (.bin .add false (.var 1) (.c (.int 31))))) (.c (.int 48271))) .nil)) (.c (.int 2147483629))) (.nm 2))
 (.seq (.asg (.bin .mod false (.cb .int false (.cons (.bin .mul false (.var 2) (.bin .add false (.bin .add false (.bin .fdiv false (.var 2) (.c (.int 1013))) (.c (.int 69621))) (.var 1))) .nil)) (.c (.int 2147483587))) (.nm 2))
 (.seq (.ret (.bin .mod true (.cb .int false (.cons (.bin .mul false (.var 2) (.bin .add false (.bin .fdiv false (.var 2) (.c (.int 2003))) (.c (.int 40692)))) .nil)) (.c (.int 2147483563))))
 .nil))))

def X__law_source : SX :=
 (.seq (.if_ (.tb (.bin (.ord .ge) false (.cb .abs false (.cons (.var 0) .nil)) (.bin .pow false (.c (.int 10)) (.c (.int 18)))))
 (.seq (.ret (.lst true (.cons (.cb .abs false (.cons (.var 0) .nil)) (.cons (.cb .abs false (.cons (.var 0) .nil)) (.cons (.c (.int 0)) .nil)))))
 .nil)
 .nil)
 (.seq (.ret (.lst true (.cons (.c (.int 0)) (.cons (.cb .abs false (.cons (.var 0) .nil)) (.cons (.c (.int 0)) .nil)))))
 .nil))

def X__law_take : SX :=
 (.seq (.if_ (.tb (.bin (.ord .gt) false (.bin .ix false (.var 0) (.c (.int 0))) (.c (.int 0))))
 (.seq (.asg (.bin .mod false (.cb .int false (.cons (.bin .ix false (.var 0) (.c (.int 0))) .nil)) (.var 1)) (.nm 2))
 (.seq (.asg (.bin .fdiv false (.bin .ix false (.var 0) (.c (.int 0))) (.var 1)) (.sb (.var 0) (.c (.int 0))))
 (.seq (.ret (.var 2))
 .nil)))
 .nil)
 (.seq (.asg (.bin .add false (.bin .ix false (.var 0) (.c (.int 2))) (.c (.int 1))) (.sb (.var 0) (.c (.int 2))))
 (.seq (.ret (.bin .mod true (.cb .int false (.cons (.call false "_law_mixed" [.pos 0, .pos 1] [] (.cons (.bin .ix false (.var 0) (.c (.int 1))) (.cons (.bin .ix false (.var 0) (.c (.int 2))) .nil)) .nil) .nil)) (.var 1)))
 .nil)))

def X__law_pick : SX :=
 (.seq (.ret (.bin .ix false (.var 1) (.call false "_law_take" [.pos 0, .pos 1] [] (.cons (.var 0) (.cons (.cb .len false (.cons (.var 1) .nil)) .nil)) .nil)))
 .nil)

def X__law_spots : SX :=
 (.seq (.par 2 3 (.cons (.call false "_law_take" [.pos 0, .pos 1] [] (.cons (.var 0) (.cons (.bin .add false (.var 1) (.c (.int 1))) .nil)) .nil) (.cons (.call false "_law_pick" [.pos 0, .pos 1] [] (.cons (.var 0) (.cons (.lst false (.cons (.c (.int 3)) (.cons (.c (.int 6)) (.cons (.c (.int 20)) (.cons (.bin .pow false (.c (.int 10)) (.c (.int 9))) (.cons (.bin .pow false (.c (.int 10)) (.c (.int 30))) .nil)))))) .nil)) .nil) .nil)))
 (.seq (.asg (.lst false .nil) (.nm 4))
 (.seq (.for_ false (.rg (.cons (.var 2) .nil)) (.nm 5)
 (.seq (.asg (.tup (.cons (.bin .sub false (.call false "_law_take" [.pos 0, .pos 1] [] (.cons (.var 0) (.cons (.bin .add false (.bin .mul false (.c (.int 2)) (.var 3)) (.c (.int 1))) .nil)) .nil) (.var 3)) (.cons (.bin .sub false (.call false "_law_take" [.pos 0, .pos 1] [] (.cons (.var 0) (.cons (.bin .add false (.bin .mul false (.c (.int 2)) (.var 3)) (.c (.int 1))) .nil)) .nil) (.var 3)) .nil))) (.nm 6))
 (.seq (.asg (.bin .add false (.var 4) (.bin .mul false (.lst false (.cons (.var 6) .nil)) (.cb .int false (.cons (.bin .notIn false (.var 6) (.var 4)) .nil)))) (.nm 4))
 .nil)))
 (.seq (.ret (.var 4))
 .nil))))

def X_require_number : SX :=
 (.seq (.if_ (.not (.val (.call false "is_between" [.pos 0, .pos 1, .pos 2] [] (.cons (.var 1) (.cons (.var 2) (.cons (.var 3) .nil))) .nil)))
 (.seq .stk
 .nil)
 .nil)
 .nil)

def X_require_points : SX :=
 (.seq (.if_ (.or (.not (.val (.cb .isi false (.cons (.var 0) (.cons (.tup (.cons (.c (.ty "list")) (.cons (.c (.ty "tuple")) .nil))) .nil))))) (.not (.tb (.ch (.ord .le) (.ord .le) (.var 2) (.cb .len false (.cons (.var 0) .nil)) (.var 1)))))
 (.seq .stk
 .nil)
 .nil)
 (.seq (.asg .dn (.nm 3))
 (.seq (.for_ false (.en (.cons (.var 0) .nil)) (.tp [4, 5])
 (.seq (.if_ (.or (.not (.val (.call false "is_point" [.pos 0] [] (.cons (.var 5) .nil) .nil))) (.tb (.bin .in_ false (.var 5) (.var 3))))
 (.seq .stk
 .nil)
 .nil)
 (.seq (.asg (.c (.bl true)) (.sb (.var 3) (.var 5)))
 .nil)))
 .nil)))

section
variable {R : FuelV} {k : Nat} {i j a b : Int}
structure Pts (R : FuelV) : Prop where
  h1 : HasV R "is_integer" 1 1 X_is_integer
  h2 : HasV R "is_between" 3 3 X_is_between
  h3 : HasV R "is_coordinate" 1 1 X_is_coordinate
  h4 : HasV R "is_point" 1 1 X_is_point
theorem is_integer_int (H : Pts R) : R (k + 1) "is_integer" [.v (.int i)] [] = .ok (.v (.bl true)) [] := by
  rw [H.h1]
  simp [X_is_integer]
theorem is_between_int (H : Pts R) : R (k + 2) "is_between" [.v (.int i), .v (.int a), .v (.int b)] [] = .ok (.v (.bl (decide (a ≤ i) && decide (i ≤ b)))) [] := by
  rw [H.h2]
  simp [X_is_between, arr, pick, is_integer_int H]
  by_cases h : a ≤ i <;> simp [h]
def cTop : Int := 1000000000000000000000000000000
theorem is_coordinate_int (H : Pts R) : R (k + 3) "is_coordinate" [.v (.int i)] [] = .ok (.v (.bl (decide (-cTop ≤ i) && decide (i ≤ cTop)))) [] := by
  rw [H.h3]
  simp [X_is_coordinate, arr, pick, is_between_int H, cTop]
  rfl
/-- a point -/
def pV (p : Int × Int) : V0 := .tup [.int p.1, .int p.2]
def PtOk (p : Int × Int) : Prop := -cTop ≤ p.1 ∧ p.1 ≤ cTop ∧ -cTop ≤ p.2 ∧ p.2 ≤ cTop
theorem is_point_pt (H : Pts R) {p : Int × Int} (hp : PtOk p) : R (k + 4) "is_point" [.v (pV p)] [] = .ok (.v (.bl true)) [] := by
  obtain ⟨h1, h2, h3, h4⟩ := hp
  rw [H.h4]
  simp [X_is_point, arr, pick, is_coordinate_int H, pV, h1, h2, h3, h4]
theorem require_point_pt (H : Pts R) (H5 : HasV R "require_point" 1 1 X_require_point) {p : Int × Int} (hp : PtOk p) : R (k + 5) "require_point" [.v (pV p)] [] = .ok (.v .non) [] := by
  rw [H5]
  simp [X_require_point, arr, pick, is_point_pt H hp]
theorem require_number_ok (H : Pts R) (Hn : HasV R "require_number" 4 4 X_require_number) {s : Str} (h1 : a ≤ i) (h2 : i ≤ b) : R (k + 3) "require_number" [.v (.str s), .v (.int i), .v (.int a), .v (.int b)] [] = .ok (.v .non) [] := by
  rw [Hn]
  simp [X_require_number, arr, pick, is_between_int H, h1, h2]

/-! ### draws -/
structure Drw (R : FuelV) : Prop where
  h1 : HasV R "_law_mixed" 3 2 X__law_mixed
  h2 : HasV R "_law_source" 1 1 X__law_source
  h3 : HasV R "_law_take" 3 2 X__law_take
  h4 : HasV R "_law_pick" 2 2 X__law_pick
theorem mixed_ok {c : Int} (H : Drw R) (hb : 0 ≤ b) (hc : 0 ≤ c) (hm : c ≤ 1152921504606846976) : ∃ v, R (k + 1) "_law_mixed" [.v (.int b), .v (.int c)] [] = .ok (.v (.int v)) [] ∧ 0 ≤ v := by
  rw [H.h1]
  have e1 : c * 7919 + 104729 < 2 ^ 80 := by omega
  have m1 : mulOk c 7919 = true := mulOk_s (by omega) (by omega)
  have r1 := Int.emod_nonneg b (show (2147483646 : Int) ≠ 0 by decide)
  have r2 := Int.emod_lt_of_pos b (show (0 : Int) < 2147483646 by decide)
  have m2 : mulOk (b % 2147483646 + 1) (c * 7919 + 104729) = true := mulOk_s (by omega) (by omega)
  generalize hv1 : (b % 2147483646 + 1) * (c * 7919 + 104729) % 2147483647 = v1
  have p1 : 0 ≤ v1 := by rw [← hv1]; exact Int.emod_nonneg _ (by decide)
  have p2 : v1 < 2147483647 := by rw [← hv1]; exact Int.emod_lt_of_pos _ (by decide)
  have r3 := Int.emod_nonneg (b / 2147483646) (show (1000003 : Int) ≠ 0 by decide)
  have r4 := Int.emod_lt_of_pos (b / 2147483646) (show (0 : Int) < 1000003 by decide)
  have m3 : mulOk (b / 2147483646 % 1000003) (c + 31) = true := mulOk_s (by omega) (by omega)
  have bd : (b / 2147483646 % 1000003 * (c + 31)).natAbs < 2 ^ (30 + 70) := mul_bd (by omega) (by omega)
  have m4 : mulOk (v1 + b / 2147483646 % 1000003 * (c + 31)) 48271 = true := mulOk_s (by omega) (by omega)
  generalize hv2 : (v1 + b / 2147483646 % 1000003 * (c + 31)) * 48271 % 2147483629 = v2
  have q1 : 0 ≤ v2 := by rw [← hv2]; exact Int.emod_nonneg _ (by decide)
  have q2 : v2 < 2147483629 := by rw [← hv2]; exact Int.emod_lt_of_pos _ (by decide)
  have m5 : mulOk v2 (v2 / 1013 + 69621 + c) = true := mulOk_s (by omega) (by omega)
  generalize hv3 : v2 * (v2 / 1013 + 69621 + c) % 2147483587 = v3
  have q3 : 0 ≤ v3 := by rw [← hv3]; exact Int.emod_nonneg _ (by decide)
  have q4 : v3 < 2147483587 := by rw [← hv3]; exact Int.emod_lt_of_pos _ (by decide)
  have m6 : mulOk v3 (v3 / 2003 + 40692) = true := mulOk_s (by omega) (by omega)
  refine ⟨v3 * (v3 / 2003 + 40692) % 2147483563, ?_, Int.emod_nonneg _ (by decide)⟩
  simp [X__law_mixed, arr, pick, m1, m2, hv1, m3, m4, hv2, m5, hv3, m6]
/-- a source of draws -/
structure Sr where
  a : Int
  b : Int
  c : Int
def Sr.e (s : Sr) : HE := .live (.lst [.int s.a, .int s.b, .int s.c])
@[simp] theorem Sr.refs {s : Sr} : s.e.refs = [] := by exact rfl
@[simp] theorem Sr.map {s : Sr} {f : Nat → Nat} : s.e.mapR f = s.e := by exact rfl
structure SrcOk (s : Sr) (m : Nat) : Prop where
  h1 : 0 ≤ s.a
  h2 : 0 ≤ s.b
  h3 : 0 ≤ s.c
  h4 : s.c + m ≤ 1152921504606846976
theorem SrcOk.le {s : Sr} {m m' : Nat} (h : SrcOk s m) (hm : m' ≤ m) : SrcOk s m' := by
  obtain ⟨h1, h2, h3, h4⟩ := h
  exact ⟨h1, h2, h3, by omega⟩
theorem source_ok (H : Drw R) (i : Int) : ∃ s : Sr, R (k + 1) "_law_source" [.v (.int i)] [] = .ok (.r 0) [s.e] ∧ SrcOk s 1152921504606846976 := by
  rw [H.h2]
  by_cases h : (1000000000000000000 : Int) ≤ i.natAbs
  · refine ⟨⟨i.natAbs, i.natAbs, 0⟩, ?_, by show (0 : Int) ≤ i.natAbs; omega, by show (0 : Int) ≤ i.natAbs; omega, by show (0 : Int) ≤ 0; omega, by show (0 : Int) + _ ≤ _; omega⟩
    simp [X__law_source, h, Sr.e]
  · refine ⟨⟨0, i.natAbs, 0⟩, ?_, by show (0 : Int) ≤ 0; omega, by show (0 : Int) ≤ i.natAbs; omega, by show (0 : Int) ≤ 0; omega, by show (0 : Int) + _ ≤ _; omega⟩
    simp [X__law_source, h, Sr.e]
theorem take_ok {s : Sr} {m : Nat} (H : Drw R) (h : SrcOk s (m + 1)) (hj : 0 < j) (hb : j < 2 ^ 200) : ∃ (v : Int) (s' : Sr), R (k + 2) "_law_take" [.r 0, .v (.int j)] [s.e] = .ok (.v (.int v)) [s'.e] ∧ 0 ≤ v ∧ v < j ∧ SrcOk s' m := by
  obtain ⟨a, b, c⟩ := s
  obtain ⟨h1, h2, h3, h4⟩ := h
  dsimp only at h1 h2 h3 h4
  rw [H.h3]
  have hb' : j < 1606938044258990275541962092341162602522202993782792835301376 := by omega
  by_cases ha : 0 < a
  · refine ⟨a % j, ⟨a / j, b, c⟩, ?_, Int.emod_nonneg _ (by omega), Int.emod_lt_of_pos _ hj, Int.ediv_nonneg h1 (by omega), h2, h3, by show c + (m : Nat) ≤ _; omega⟩
    simp [X__law_take, ha, hj, hb', stoW, setI, ixN, stoRes, Sr.e]
  · obtain ⟨v, e, hv⟩ := mixed_ok (R := R) (k := k) H h2 (show 0 ≤ c + 1 by omega) (by omega)
    refine ⟨v % j, ⟨a, b, c + 1⟩, ?_, Int.emod_nonneg _ (by omega), Int.emod_lt_of_pos _ hj, h1, h2, by show 0 ≤ c + 1; omega, by show c + 1 + (m : Nat) ≤ _; omega⟩
    simp [X__law_take, ha, hj, stoW, setI, ixN, stoRes, arr, pick, e, Sr.e]
theorem atI_in {α : Type} {xs : List α} (h0 : 0 ≤ i) (h1 : i < xs.length) : ∃ x, atI xs i = some x ∧ x ∈ xs ∧ xs[i.toNat]? = some x := by
  obtain ⟨m, rfl⟩ : ∃ m : Nat, i = m := ⟨i.toNat, by omega⟩
  have hm : m < xs.length := by omega
  exact ⟨xs[m], by rw [atI_n, List.getElem?_eq_getElem hm], List.getElem_mem hm, by simp [hm]⟩
theorem pick_ok {s : Sr} {m : Nat} {xs : List V0} (H : Drw R) (h : SrcOk s (m + 1)) (h0 : xs ≠ []) (hl : xs.length < 2 ^ 100) : ∃ (x : V0) (s' : Sr), R (k + 3) "_law_pick" [.r 0, .v (.lst xs)] [s.e] = .ok (.v x) [s'.e] ∧ x ∈ xs ∧ SrcOk s' m := by
  have hp : 0 < xs.length := List.length_pos_iff.mpr h0
  obtain ⟨v, s', e, v0, v1, hs⟩ := take_ok (k := k) (j := xs.length) H h (by omega) (by omega)
  obtain ⟨x, e2, hx, _⟩ := atI_in v0 v1
  refine ⟨x, s', ?_, hx, hs⟩
  rw [H.h4]
  simp [X__law_pick, arr, pick, e, e2]

/-! ### points as data -/
def pP (p : Int × Int) : PyData := .tuple [.int p.1, .int p.2]
theorem pdV_pt (p : Int × Int) : pdV (pV p) = some (pP p) := by simp [pV, pdV, pdVs, pP]
theorem pdVs_map {α : Type} {f : α → V0} {g : α → PyData} (h : ∀ a, pdV (f a) = some (g a)) : ∀ l : List α, pdVs (l.map f) = some (l.map g)
  | [] => by simp [pdVs]
  | a :: r => by simp [pdVs, h a, pdVs_map h r]
theorem pdV_pts (ps : List (Int × Int)) : pdV (.lst (ps.map pV)) = some (.list (ps.map pP)) := by simp [pdV, pdVs_map pdV_pt ps]
theorem lay_pts : ∀ ps : List (Int × Int), PyData.canLayAll0 (ps.map pP) = true
  | [] => by simp [PyData.canLayAll0]
  | p :: r => by simp [PyData.canLayAll0, PyData.canLay0, pP, lay_pts r]
theorem dep_pts : ∀ ps : List (Int × Int), PyData.depthAll (ps.map pP) ≤ 1
  | [] => by simp [PyData.depthAll]
  | p :: r => by
    have := dep_pts r
    simp [PyData.depthAll, PyData.depth, pP]
    omega
theorem shp_pt (p : Int × Int) : SeqAt.shaped (pP p) = true := by
  simp [SeqAt.shaped, pP, PyData.canLay0, PyData.canLayAll0, PyData.depth, PyData.depthAll]
theorem shp_pts (ps : List (Int × Int)) : SeqAt.shaped (.list (ps.map pP)) = true := by
  have := dep_pts ps
  simp [SeqAt.shaped, PyData.canLay0, PyData.depth, lay_pts ps]
  omega
theorem eqv_pt (p q : Int × Int) : PyData.eqv (pP p) (pP q) = decide (p = q) := by
  obtain ⟨a, b⟩ := p
  obtain ⟨c, d⟩ := q
  simp [pP, PyData.eqv, PyData.eqvAll]
  by_cases h : a = c <;> by_cases h2 : b = d <;> simp [h, h2]
theorem eq_pt (p q : Int × Int) : eqV (pV p) (pV q) = some (decide (p = q)) := by
  unfold eqV
  simp [pdV_pt, shp_pt, eqv_pt]
theorem in_pts (ps : List (Int × Int)) (q : Int × Int) : inV (pV q) (.lst (ps.map pV)) = some (decide (q ∈ ps)) := by
  unfold inV
  rw [pdV_pt, pdV_pts]
  simp only [shp_pt, shp_pts, and_self, if_true, Option.some.injEq]
  induction ps with
  | nil => simp
  | cons p r ih => simp [eqv_pt, ih, Bool.decide_or]; by_cases h : p = q <;> simp [h]; exact fun e => absurd e.symm h
theorem eqvs_pt : ∀ ps qs : List (Int × Int), PyData.eqvAll (ps.map pP) (qs.map pP) = decide (ps = qs)
  | [], [] => by simp [PyData.eqvAll]
  | [], _ :: _ => by simp [PyData.eqvAll]
  | _ :: _, [] => by simp [PyData.eqvAll]
  | p :: ps, q :: qs => by
    simp only [List.map_cons, PyData.eqvAll, eqv_pt, eqvs_pt ps qs, List.cons.injEq]
    by_cases h : p = q <;> by_cases h2 : ps = qs <;> simp [h, h2]
theorem eq_pts (ps qs : List (Int × Int)) : eqV (.lst (ps.map pV)) (.lst (qs.map pV)) = some (decide (ps = qs)) := by
  unfold eqV
  simp [pdV_pts, shp_pts, PyData.eqv, eqvs_pt]
mutual
theorem eqv_refl : ∀ p : PyData, p.canLay0 = true → PyData.eqv p p = true
  | .list xs, h => by simp only [PyData.eqv]; exact eqv_reflAll xs (by simpa [PyData.canLay0] using h)
  | .tuple xs, h => by simp only [PyData.eqv]; exact eqv_reflAll xs (by simpa [PyData.canLay0] using h)
  | .dict _, h => nomatch h
  | .none, _ | .bool _, _ | .int _, _ | .str _, _ => by simp [PyData.eqv]
theorem eqv_reflAll : ∀ xs : List PyData, PyData.canLayAll0 xs = true → PyData.eqvAll xs xs = true
  | [], _ => by simp [PyData.eqvAll]
  | x :: r, h => by
    have h' : x.canLay0 = true ∧ PyData.canLayAll0 r = true := by simpa [PyData.canLayAll0] using h
    simp [PyData.eqvAll, eqv_refl x h'.1, eqv_reflAll r h'.2]
end
/-- the same thing twice -/
theorem eq_same {x : V0} {p : PyData} (h1 : pdV x = some p) (hl : p.canLay0 = true) (hd : p.depth ≤ 64) : eqV x x = some true := by
  unfold eqV
  have hs : SeqAt.shaped p = true := by unfold SeqAt.shaped; rw [hl, decide_eq_true hd]; rfl
  simp [h1, hs, eqv_refl p hl]
end
end PV

set_option Elab.async false
set_option linter.all false
set_option maxRecDepth 100000
set_option maxHeartbeats 400000
namespace PV
open L2 PyProof.Rows PySem PySem.Spec
/-! ### texts -/
def X_has_low : SX :=
 (.seq (.ret (.bin .in_ false (.var 0) (.tup (.cons (.c (.str "low")) (.cons (.c (.str "both")) .nil)))))
 .nil)
def X_has_high : SX :=
 (.seq (.ret (.bin .in_ false (.var 0) (.tup (.cons (.c (.str "high")) (.cons (.c (.str "both")) .nil)))))
 .nil)
def X_low_state : SX :=
 (.seq (.ret (.ifx (.val (.call false "has_low" [.pos 0] [] (.cons (.var 0) .nil) .nil)) (.c (.str "low")) (.c (.str "none"))))
 .nil)
def X_high_state : SX :=
 (.seq (.ret (.ifx (.val (.call false "has_high" [.pos 0] [] (.cons (.var 0) .nil) .nil)) (.c (.str "high")) (.c (.str "none"))))
 .nil)
def X_with_state : SX :=
 (.seq (.ret (.ifx (.tb (.bin .eq false (.var 1) (.c (.int 0)))) (.tup (.cons (.var 2) (.cons (.bin .ix false (.var 0) (.c (.int 1))) .nil))) (.tup (.cons (.bin .ix false (.var 0) (.c (.int 0))) (.cons (.var 2) .nil)))))
 .nil)
def X_Table___init__ : SX :=
 (.seq (.asg (.tup (.cons (.var 1) (.cons .dn .nil))) (.tq [.fl ["Table"] "is_counting" 0, .fl ["Table"] "known" 0]))
 .nil)
def X_Table_most : SX :=
 (.seq (.if_ (.or (.tb (.bin .eq false (.var 1) (.c (.int 0)))) (.tb (.bin .eq false (.var 3) (.tup (.cons (.c (.str "none")) (.cons (.c (.str "none")) .nil))))))
 (.seq (.ret (.cb .int true (.cons (.and (.bin (.ord .gt) false (.var 1) (.c (.int 0))) (.fld ["Table"] "is_counting" (.var 0))) .nil)))
 .nil)
 .nil)
 (.seq (.if_ (.tb (.bin .notIn false (.tup (.cons (.var 1) (.cons (.var 2) (.cons (.var 3) .nil)))) (.fld ["Table"] "known" (.var 0))))
 (.seq (.asg (.cb .max false (.cons (.lc false [4, 5] (.seq (.mth false "choices" [⟨"Table", "Table.choices", [.pos 0, .pos 1, .pos 2, .pos 3], []⟩] (.var 0) (.cons (.var 1) (.cons (.var 2) (.cons (.var 3) .nil))) .nil)) (.tp [4, 5]) .yes (.var 4)) .nil)) (.sb (.fld ["Table"] "known" (.var 0)) (.tup (.cons (.var 1) (.cons (.var 2) (.cons (.var 3) .nil))))))
 .nil)
 .nil)
 (.seq (.ret (.bin .ix false (.fld ["Table"] "known" (.var 0)) (.tup (.cons (.var 1) (.cons (.var 2) (.cons (.var 3) .nil))))))
 .nil)))
def X_Table_choices : SX :=
 (.seq (.par3 4 5 6 (.cons (.bin .fdiv false (.var 1) (.c (.int 2))) (.cons (.bin .sub false (.bin .sub false (.var 1) (.c (.int 1))) (.bin .fdiv false (.var 1) (.c (.int 2)))) (.cons (.lst true .nil) .nil))))
 (.seq (.if_ (.val (.call false "has_low" [.pos 0] [] (.cons (.bin .ix false (.var 3) (.var 2)) .nil) .nil))
 (.seq (.expr (.m .append (.var 6) (.cons (.tup (.cons (.bin .add false (.c (.int 1)) (.mth false "most" [⟨"Table", "Table.most", [.pos 0, .pos 1, .pos 2, .pos 3], []⟩] (.var 0) (.cons (.var 5) (.cons (.bin .sub false (.c (.int 1)) (.var 2)) (.cons (.var 3) .nil))) .nil)) (.cons (.c (.str "below")) .nil))) .nil)))
 .nil)
 .nil)
 (.seq (.if_ (.val (.call false "has_high" [.pos 0] [] (.cons (.bin .ix false (.var 3) (.var 2)) .nil) .nil))
 (.seq (.expr (.m .append (.var 6) (.cons (.tup (.cons (.bin .add false (.c (.int 1)) (.mth false "most" [⟨"Table", "Table.most", [.pos 0, .pos 1, .pos 2, .pos 3], []⟩] (.var 0) (.cons (.var 4) (.cons (.bin .sub false (.c (.int 1)) (.var 2)) (.cons (.var 3) .nil))) .nil)) (.cons (.c (.str "above")) .nil))) .nil)))
 .nil)
 .nil)
 (.seq (.asg (.ifx (.or (.val (.fld ["Table"] "is_counting" (.var 0))) (.tb (.bin .ne false (.bin .ix false (.var 3) (.bin .sub false (.c (.int 1)) (.var 2))) (.c (.str "none"))))) (.c (.int 1)) (.c (.int 0))) (.nm 7))
 (.seq (.asg (.mth false "most" [⟨"Table", "Table.most", [.pos 0, .pos 1, .pos 2, .pos 3], []⟩] (.var 0) (.cons (.var 4) (.cons (.bin .sub false (.c (.int 1)) (.var 2)) (.cons (.call false "with_state" [.pos 0, .pos 1, .pos 2] [] (.cons (.var 3) (.cons (.var 2) (.cons (.call false "low_state" [.pos 0] [] (.cons (.bin .ix false (.var 3) (.var 2)) .nil) .nil) .nil))) .nil) .nil))) .nil) (.nm 8))
 (.seq (.aug 8 .add (.mth false "most" [⟨"Table", "Table.most", [.pos 0, .pos 1, .pos 2, .pos 3], []⟩] (.var 0) (.cons (.var 5) (.cons (.bin .sub false (.c (.int 1)) (.var 2)) (.cons (.call false "with_state" [.pos 0, .pos 1, .pos 2] [] (.cons (.var 3) (.cons (.var 2) (.cons (.call false "high_state" [.pos 0] [] (.cons (.bin .ix false (.var 3) (.var 2)) .nil) .nil) .nil))) .nil) .nil))) .nil))
 (.seq (.ret (.lstS true (.star (.var 6) (.cons (.tup (.cons (.bin .add false (.var 7) (.var 8)) (.cons (.c (.str "between")) .nil))) .nil))))
 .nil)))))))
def X_require_states : SX :=
 (.seq (.for_ false (.seq (.tup (.cons (.tup (.cons (.c (.str "x")) (.cons (.var 0) .nil))) (.cons (.tup (.cons (.c (.str "y")) (.cons (.var 1) .nil))) .nil)))) (.tp [2, 3])
 (.seq (.if_ (.or (.not (.val (.cb .isi false (.cons (.var 3) (.cons (.c (.ty "str")) .nil))))) (.tb (.bin .notIn false (.var 3) (.c (.tup [(.str "none"), (.str "low"), (.str "high"), (.str "both")])))))
 (.seq .stk
 .nil)
 .nil)
 .nil))
 .nil)
def X_require_case : SX :=
 (.seq (.expr (.call false "require_number" [.pos 0, .pos 1, .pos 2, .pos 3] [] (.cons (.c (.str "many")) (.cons (.var 0) (.cons (.c (.int 0)) (.cons (.c (.int 1000000000000000000)) .nil)))) .nil))
 (.seq (.expr (.call false "require_number" [.pos 0, .pos 1, .pos 2, .pos 3] [] (.cons (.c (.str "axis")) (.cons (.var 1) (.cons (.c (.int 0)) (.cons (.c (.int 1)) .nil)))) .nil))
 (.seq (.expr (.call false "require_states" [.pos 0, .pos 1] [] (.cons (.var 2) (.cons (.var 3) .nil)) .nil))
 .nil)))
def X__law_states : SX :=
 (.seq (.par 0 1 (.cons (.lst false (.cons (.c (.str "none")) (.cons (.c (.str "low")) (.cons (.c (.str "high")) (.cons (.c (.str "both")) .nil))))) (.cons (.lst false .nil) .nil)))
 (.seq (.for_ false (.seq (.var 0)) (.nm 2)
 (.seq (.asg (.bin .add false (.var 1) (.lc false [3] (.seq (.var 0)) (.nm 3) .yes (.tup (.cons (.var 2) (.cons (.var 3) .nil))))) (.nm 1))
 .nil))
 (.seq (.ret (.var 1))
 .nil)))
def X__law_less : SX :=
 (.seq (.ret (.ifx (.tb (.bin .in_ false (.var 0) (.tup (.cons (.c (.str "low")) (.cons (.c (.str "both")) .nil))))) (.c (.str "low")) (.c (.str "none"))))
 .nil)
def X__law_more : SX :=
 (.seq (.ret (.ifx (.tb (.bin .in_ false (.var 0) (.tup (.cons (.c (.str "high")) (.cons (.c (.str "both")) .nil))))) (.c (.str "high")) (.c (.str "none"))))
 .nil)
def X__law_most : SX :=
 (.seq (.if_ (.or (.tb (.bin .eq false (.var 0) (.c (.int 0)))) (.tb (.bin .eq false (.var 2) (.tup (.cons (.c (.str "none")) (.cons (.c (.str "none")) .nil))))))
 (.seq (.ret (.ifx (.and (.tb (.bin (.ord .gt) false (.var 0) (.c (.int 0)))) (.val (.var 3))) (.c (.int 1)) (.c (.int 0))))
 .nil)
 .nil)
 (.seq (.asg (.tup (.cons (.var 0) (.cons (.var 1) (.cons (.var 2) .nil)))) (.nm 5))
 (.seq (.if_ (.tb (.bin .in_ false (.var 5) (.var 4)))
 (.seq (.ret (.bin .ix false (.var 4) (.var 5)))
 .nil)
 .nil)
 (.seq (.par 6 7 (.cons (.bin .fdiv false (.var 0) (.c (.int 2))) (.cons (.bin .sub false (.bin .sub false (.var 0) (.bin .fdiv false (.var 0) (.c (.int 2)))) (.c (.int 1))) .nil)))
 (.seq (.par 8 9 (.cons (.bin .ix false (.var 2) (.var 1)) (.cons (.bin .ix false (.var 2) (.bin .sub false (.c (.int 1)) (.var 1))) .nil)))
 (.seq (.asg (.ifx (.or (.val (.var 3)) (.tb (.bin .ne false (.var 9) (.c (.str "none"))))) (.c (.int 1)) (.c (.int 0))) (.nm 10))
 (.seq (.asg (.ifx (.tb (.bin .eq false (.var 1) (.c (.int 0)))) (.tup (.cons (.call false "_law_less" [.pos 0] [] (.cons (.var 8) .nil) .nil) (.cons (.var 9) .nil))) (.tup (.cons (.var 9) (.cons (.call false "_law_less" [.pos 0] [] (.cons (.var 8) .nil) .nil) .nil)))) (.nm 11))
 (.seq (.asg (.ifx (.tb (.bin .eq false (.var 1) (.c (.int 0)))) (.tup (.cons (.call false "_law_more" [.pos 0] [] (.cons (.var 8) .nil) .nil) (.cons (.var 9) .nil))) (.tup (.cons (.var 9) (.cons (.call false "_law_more" [.pos 0] [] (.cons (.var 8) .nil) .nil) .nil)))) (.nm 12))
 (.seq (.asg (.bin .add false (.var 10) (.call false "_law_most" [.pos 0, .pos 1, .pos 2, .pos 3, .pos 4] [] (.cons (.var 6) (.cons (.bin .sub false (.c (.int 1)) (.var 1)) (.cons (.var 11) (.cons (.var 3) (.cons (.var 4) .nil))))) .nil)) (.nm 10))
 (.seq (.asg (.bin .add false (.var 10) (.call false "_law_most" [.pos 0, .pos 1, .pos 2, .pos 3, .pos 4] [] (.cons (.var 7) (.cons (.bin .sub false (.c (.int 1)) (.var 1)) (.cons (.var 12) (.cons (.var 3) (.cons (.var 4) .nil))))) .nil)) (.nm 10))
 (.seq (.if_ (.tb (.bin .in_ false (.var 8) (.tup (.cons (.c (.str "low")) (.cons (.c (.str "both")) .nil)))))
 (.seq (.asg (.cb .max false (.cons (.var 10) (.cons (.bin .add false (.c (.int 1)) (.call false "_law_most" [.pos 0, .pos 1, .pos 2, .pos 3, .pos 4] [] (.cons (.var 7) (.cons (.bin .sub false (.c (.int 1)) (.var 1)) (.cons (.var 2) (.cons (.var 3) (.cons (.var 4) .nil))))) .nil)) .nil))) (.nm 10))
 .nil)
 .nil)
 (.seq (.if_ (.tb (.bin .in_ false (.var 8) (.tup (.cons (.c (.str "high")) (.cons (.c (.str "both")) .nil)))))
 (.seq (.asg (.cb .max false (.cons (.var 10) (.cons (.bin .add false (.c (.int 1)) (.call false "_law_most" [.pos 0, .pos 1, .pos 2, .pos 3, .pos 4] [] (.cons (.var 6) (.cons (.bin .sub false (.c (.int 1)) (.var 1)) (.cons (.var 2) (.cons (.var 3) (.cons (.var 4) .nil))))) .nil)) .nil))) (.nm 10))
 .nil)
 .nil)
 (.seq (.asg (.var 10) (.sb (.var 4) (.var 5)))
 (.seq (.ret (.var 10))
 .nil))))))))))))))

/-! ### states -/
abbrev St := Bool × Bool
def nmS (s : St) : Str := match s with
  | (false, false) => "none"
  | (true, false) => "low"
  | (false, true) => "high"
  | (true, true) => "both"
def sV (s : St) : V0 := .str (nmS s)
def ssV (x y : St) : V0 := .tup [sV x, sV y]
def isNo (s : St) : Bool := !s.1 && !s.2
def lnV (b : Bool) : V0 := .int (if b then 1 else 0)
/-- a case: how many, the lane, the states -/
abbrev Qs := Nat × Bool × St × St
def mst (cnt : Bool) (n : Nat) (ln : Bool) (x y : St) : Int :=
  if h : n = 0 ∨ (isNo x = true ∧ isNo y = true) then (if n ≠ 0 ∧ cnt = true then 1 else 0)
  else
    let me := if ln then y else x
    let ot := if (!ln) then y else x
    let own : Int := if cnt = true ∨ isNo ot = false then 1 else 0
    let lo := mst cnt (n / 2) (!ln) (if ln then x else (me.1, false)) (if ln then (me.1, false) else y)
    let hi := mst cnt (n - 1 - n / 2) (!ln) (if ln then x else (false, me.2)) (if ln then (false, me.2) else y)
    let a := own + (lo + hi)
    let b := if me.1 = true then max a (1 + mst cnt (n - 1 - n / 2) (!ln) x y) else a
    if me.2 = true then max b (1 + mst cnt (n / 2) (!ln) x y) else b
termination_by n
decreasing_by all_goals omega
def keyV (q : Qs) : V0 := .tup [.int (q.1 : Nat), lnV q.2.1, ssV q.2.2.1 q.2.2.2]
def keyT (q : Qs) : TK := .tup [.int (q.1 : Nat), .int (if q.2.1 then 1 else 0), .tup [.str (nmS q.2.2.1), .str (nmS q.2.2.2)]]
def qm (cnt : Bool) (q : Qs) : V0 := .int (mst cnt q.1 q.2.1 q.2.2.1 q.2.2.2)
def kvQ (cnt : Bool) (q : Qs) : TK × V0 := (keyT q, qm cnt q)
/-- what is known -/
def memT (cnt : Bool) : Option (List Qs) → HT
  | none => .dk []
  | some m => .dd (m.map (kvQ cnt))
def memE (cnt : Bool) (o : Option (List Qs)) : HE := .live (memT cnt o)
@[simp] theorem memE_refs {cnt : Bool} {o : Option (List Qs)} : (memE cnt o).refs = [] := by cases o <;> rfl
@[simp] theorem memE_map {cnt : Bool} {o : Option (List Qs)} {f : Nat → Nat} : (memE cnt o).mapR f = memE cnt o := by cases o <;> rfl
theorem nmS_inj {a b : St} (h : nmS a = nmS b) : a = b := by
  revert h
  obtain ⟨a1, a2⟩ := a
  obtain ⟨b1, b2⟩ := b
  cases a1 <;> cases a2 <;> cases b1 <;> cases b2 <;> first | exact fun _ => rfl | (intro h; exact absurd h (by decide))
theorem keyT_inj {p q : Qs} (h : keyT p = keyT q) : p = q := by
  obtain ⟨n, l, x, y⟩ := p
  obtain ⟨n', l', x', y'⟩ := q
  simp only [keyT, TK.tup.injEq, List.cons.injEq, TK.int.injEq, TK.str.injEq, and_true] at h
  obtain ⟨h1, h2, h3, h4⟩ := h
  have e1 : n = n' := by omega
  have e2 : l = l' := by cases l <;> cases l' <;> simp at h2 ⊢
  rw [e1, e2, nmS_inj h3, nmS_inj h4]
theorem tk_key (q : Qs) : tkTV (keyV q) = some (keyT q) := by
  obtain ⟨n, l, x, y⟩ := q
  simp [tkTV, keyV, keyT, lnV, ssV, sV, tkV, tkVs, TK.deep, TK.deepAll]
theorem key_no (q : Qs) : keySV (keyV q) = none := by rfl
theorem dval_mem (cnt : Bool) (q : Qs) : ∀ m : List Qs, dvalV (m.map (kvQ cnt)) (keyT q) = if q ∈ m then some (qm cnt q) else none
  | [] => rfl
  | p :: m => by
    have ih := dval_mem cnt q m
    unfold dvalV at ih ⊢
    rw [List.map_cons, List.find?_cons]
    by_cases h : p = q
    · subst h
      simp [kvQ]
    · have : decide ((kvQ cnt p).1 = keyT q) = false := decide_eq_false fun z => h (keyT_inj z)
      rw [this]
      dsimp only
      rw [ih]
      simp [List.mem_cons, Ne.symm h]
theorem look_mem (cnt : Bool) (o : Option (List Qs)) (q : Qs) : dlookV (memT cnt o) (keyV q) = some (if q ∈ o.getD [] then some (qm cnt q) else none, memT cnt (some (o.getD []))) := by
  cases o with
  | none => simp [dlookV, memT, key_no, tk_key]
  | some m => simp [dlookV, memT, tk_key, dval_mem]
theorem store_mem (cnt : Bool) (m : List Qs) (q : Qs) (h : q ∉ m) (hl : m.length < sizeLine) : dstoreV (memT cnt (some m)) (keyV q) (qm cnt q) = some (memT cnt (some (m ++ [q]))) := by
  have hd : dvalV (m.map (kvQ cnt)) (keyT q) = none := by rw [dval_mem, if_neg h]
  simp [dstoreV, memT, tk_key, hl, dputV, hd, kvQ]
/-! ### which cases are met -/
def szs (N : Nat) : List Nat := (List.range 61).flatMap fun d => [N / 2 ^ d, N / 2 ^ d - 1]
def Met (N n : Nat) : Prop := ∃ d : Nat, d ≤ 60 ∧ (n = N / 2 ^ d ∨ n = N / 2 ^ d - 1)
theorem met_self (N : Nat) : Met N N := ⟨0, by omega, .inl (by simp)⟩
theorem met_half {N n : Nat} (hN : N < 2 ^ 60) (h : Met N n) (h0 : n ≠ 0) : Met N (n / 2) ∧ Met N (n - 1 - n / 2) := by
  obtain ⟨d, hd, h⟩ := h
  have hd' : d < 60 := by
    rcases Nat.lt_or_ge d 60 with z | z
    · exact z
    · have : N / 2 ^ d = 0 := Nat.div_eq_of_lt (Nat.lt_of_lt_of_le hN (Nat.pow_le_pow_right (by decide) z))
      omega
  have e : N / 2 ^ (d + 1) = N / 2 ^ d / 2 := by rw [Nat.pow_succ, Nat.div_div_eq_div_mul]
  refine ⟨⟨d + 1, hd', ?_⟩, ⟨d + 1, hd', ?_⟩⟩ <;> rw [e] <;> omega
theorem two_len (f g : Nat → Nat) : ∀ l : List Nat, (l.flatMap fun d => [f d, g d]).length = 2 * l.length
  | [] => rfl
  | d :: r => by rw [List.flatMap_cons, List.length_append, two_len f g r, List.length_cons, List.length_cons, List.length_cons, List.length_nil]; omega
theorem szs_len (N : Nat) : (szs N).length = 122 := by unfold szs; rw [two_len, List.length_range]
theorem met_mem {N n : Nat} (h : Met N n) : n ∈ szs N := by
  obtain ⟨d, hd, h⟩ := h
  exact List.mem_flatMap.mpr ⟨d, List.mem_range.mpr (by omega), by rcases h with h | h <;> simp [h]⟩
def allS : List St := [(false, false), (true, false), (false, true), (true, true)]
theorem mem_allS (s : St) : s ∈ allS := by obtain ⟨a, b⟩ := s; cases a <;> cases b <;> decide
def allQ (l : List Nat) : List Qs := l.flatMap fun n => [false, true].flatMap fun b => allS.flatMap fun x => allS.map fun y => (n, b, x, y)
theorem allQ_len : ∀ l : List Nat, (allQ l).length = 32 * l.length
  | [] => rfl
  | n :: r => by
    have ih := allQ_len r
    unfold allQ at ih ⊢
    rw [List.flatMap_cons, List.length_append, ih, List.length_cons]
    simp [allS]
    omega
theorem nodup_len {α : Type} [DecidableEq α] : ∀ {l m : List α}, l.Nodup → (∀ a ∈ l, a ∈ m) → l.length ≤ m.length
  | [], _, _, _ => Nat.zero_le _
  | a :: l, m, hn, h => by
    have ⟨h1, h2⟩ := List.nodup_cons.mp hn
    have ha := h a List.mem_cons_self
    have := nodup_len (l := l) (m := m.erase a) h2 fun b hb => (List.mem_erase_of_ne (fun (z : b = a) => h1 (z ▸ hb))).mpr (h b (List.mem_cons_of_mem _ hb))
    rw [List.length_erase_of_mem ha] at this
    have := List.length_pos_of_mem ha
    simp only [List.length_cons]
    omega
/-- each case is known once, and is one that is met -/
structure MemOk (Ns : List Nat) (m : List Qs) : Prop where
  nd : m.Nodup
  met : ∀ q ∈ m, ∃ N ∈ Ns, Met N q.1
theorem MemOk.len {Ns : List Nat} {m : List Qs} (h : MemOk Ns m) : m.length ≤ 3904 * Ns.length := by
  have := nodup_len (m := allQ (Ns.flatMap szs)) h.nd fun q hq => by
    obtain ⟨N, h1, h2⟩ := h.met q hq
    obtain ⟨n, b, x, y⟩ := q
    refine List.mem_flatMap.mpr ⟨n, List.mem_flatMap.mpr ⟨N, h1, met_mem h2⟩, List.mem_flatMap.mpr ⟨b, by cases b <;> simp, List.mem_flatMap.mpr ⟨x, mem_allS x, List.mem_map.mpr ⟨y, mem_allS y, rfl⟩⟩⟩⟩
  rw [allQ_len] at this
  have e : ∀ l : List Nat, (l.flatMap szs).length = 122 * l.length := by
    intro l
    induction l with
    | nil => rfl
    | cons n r ih => rw [List.flatMap_cons, List.length_append, ih, szs_len, List.length_cons]; omega
  rw [e] at this
  omega
theorem MemOk.snoc {Ns : List Nat} {m : List Qs} {q : Qs} {N : Nat} (h : MemOk Ns m) (hq : q ∉ m) (hN : N ∈ Ns) (hm : Met N q.1) : MemOk Ns (m ++ [q]) :=
  ⟨List.nodup_append.mpr ⟨h.nd, by simp, fun a ha b hb => by rw [List.mem_singleton.mp hb]; exact fun e => hq (e ▸ ha)⟩, fun p hp => by
    rcases List.mem_append.mp hp with hp | hp
    · exact h.met p hp
    · rw [List.mem_singleton.mp hp]; exact ⟨N, hN, hm⟩⟩
end PV

set_option Elab.async false
set_option linter.all false
set_option maxRecDepth 100000
set_option maxHeartbeats 1000000
namespace PV
open L2 PyProof.Rows PySem PySem.Spec
@[simp] theorem sl0 : (0 < sizeLine) = True := by simp [sizeLine]
@[simp] theorem sl1 : (1 < sizeLine) = True := by simp [sizeLine]
@[simp] theorem sl2 : (2 < sizeLine) = True := by simp [sizeLine]
@[simp] theorem sm1 : (1 ≤ sizeLine) = True := by simp [sizeLine]
@[simp] theorem sm2 : (2 ≤ sizeLine) = True := by simp [sizeLine]
@[simp] theorem sm3 : (3 ≤ sizeLine) = True := by simp [sizeLine]
@[simp] theorem sm4 : (4 ≤ sizeLine) = True := by simp [sizeLine]
theorem ok_nm (s : St) : PyData.strOk (nmS s) = true := by
  obtain ⟨a, b⟩ := s
  cases a <;> cases b <;> decide +kernel
theorem shp_s {a : Str} (h : PyData.strOk a = true) : SeqAt.shaped (.str a) = true := by simp [SeqAt.shaped, PyData.canLay0, PyData.depth, h]
theorem shp_s2 {a b : Str} (ha : PyData.strOk a = true) (hb : PyData.strOk b = true) : SeqAt.shaped (.tuple [.str a, .str b]) = true := by simp [SeqAt.shaped, PyData.canLay0, PyData.canLayAll0, PyData.depth, PyData.depthAll, ha, hb]
theorem shp_s4 {a b c d : Str} (ha : PyData.strOk a = true) (hb : PyData.strOk b = true) (hc : PyData.strOk c = true) (hd : PyData.strOk d = true) : SeqAt.shaped (.tuple [.str a, .str b, .str c, .str d]) = true := by simp [SeqAt.shaped, PyData.canLay0, PyData.canLayAll0, PyData.depth, PyData.depthAll, ha, hb, hc, hd]
theorem beq_dec (a b : Str) : (a == b) = decide (a = b) := by
  by_cases h : a = b
  · subst h; simp
  · simp [h]
theorem in2 {a b c : Str} (ha : PyData.strOk a = true) (hb : PyData.strOk b = true) (hc : PyData.strOk c = true) : inV (.str a) (.tup [.str b, .str c]) = some (decide (b = a) || decide (c = a)) := by
  simp [inV, pdV, pdVs, shp_s ha, shp_s2 hb hc, PyData.eqv, beq_dec]
theorem in4 {a b c d e : Str} (ha : PyData.strOk a = true) (hb : PyData.strOk b = true) (hc : PyData.strOk c = true) (hd : PyData.strOk d = true) (he : PyData.strOk e = true) : inV (.str a) (.tup [.str b, .str c, .str d, .str e]) = some (decide (b = a) || (decide (c = a) || (decide (d = a) || decide (e = a)))) := by
  simp [inV, pdV, pdVs, shp_s ha, shp_s4 hb hc hd he, PyData.eqv, beq_dec]
theorem in_low (s : St) : inV (sV s) (.tup [.str "low", .str "both"]) = some s.1 := by
  unfold sV
  rw [in2 (ok_nm s) (by decide +kernel) (by decide +kernel)]
  obtain ⟨a, b⟩ := s
  cases a <;> cases b <;> decide +kernel
theorem in_high (s : St) : inV (sV s) (.tup [.str "high", .str "both"]) = some s.2 := by
  unfold sV
  rw [in2 (ok_nm s) (by decide +kernel) (by decide +kernel)]
  obtain ⟨a, b⟩ := s
  cases a <;> cases b <;> decide +kernel
theorem in_st (s : St) : inV (sV s) (.tup [.str "none", .str "low", .str "high", .str "both"]) = some true := by
  unfold sV
  rw [in4 (ok_nm s) (by decide +kernel) (by decide +kernel) (by decide +kernel) (by decide +kernel)]
  obtain ⟨a, b⟩ := s
  cases a <;> cases b <;> decide +kernel
theorem eq_str {a b : Str} (ha : PyData.strOk a = true) (hb : PyData.strOk b = true) : eqV (.str a) (.str b) = some (decide (a = b)) := by
  simp [eqV, pdV, shp_s ha, shp_s hb, PyData.eqv, beq_dec]
theorem eq_no (s : St) : eqV (sV s) (.str "none") = some (isNo s) := by
  unfold sV
  rw [eq_str (ok_nm s) (by decide +kernel)]
  obtain ⟨a, b⟩ := s
  cases a <;> cases b <;> decide +kernel
theorem no_iff (s : St) : decide (nmS s = "none") = isNo s := by
  obtain ⟨a, b⟩ := s
  cases a <;> cases b <;> decide +kernel
theorem eq_no2 (x y : St) : eqV (ssV x y) (.tup [.str "none", .str "none"]) = some (isNo x && isNo y) := by
  obtain ⟨a, b⟩ := x
  obtain ⟨c, d⟩ := y
  have h1 := no_iff (a, b)
  have h2 := no_iff (c, d)
  rw [← h1, ← h2]
  simp [eqV, ssV, sV, pdV, pdVs, shp_s2 (ok_nm (a, b)) (ok_nm (c, d)), shp_s2 (a := "none") (b := "none") (by decide +kernel) (by decide +kernel), PyData.eqv, PyData.eqvAll, beq_dec]
section
variable {R : FuelV} {k : Nat}
structure Stt (R : FuelV) : Prop where
  h1 : HasV R "has_low" 1 1 X_has_low
  h2 : HasV R "has_high" 1 1 X_has_high
  h3 : HasV R "low_state" 1 1 X_low_state
  h4 : HasV R "high_state" 1 1 X_high_state
  h5 : HasV R "with_state" 3 3 X_with_state
theorem has_low_ok (H : Stt R) (s : St) : R (k + 1) "has_low" [.v (sV s)] [] = .ok (.v (.bl s.1)) [] := by
  rw [H.h1]
  simp [X_has_low, in_low]
theorem has_high_ok (H : Stt R) (s : St) : R (k + 1) "has_high" [.v (sV s)] [] = .ok (.v (.bl s.2)) [] := by
  rw [H.h2]
  simp [X_has_high, in_high]
theorem low_state_ok (H : Stt R) (s : St) : R (k + 2) "low_state" [.v (sV s)] [] = .ok (.v (sV (s.1, false))) [] := by
  rw [H.h3]
  simp [X_low_state, has_low_ok H, arr, pick]
  obtain ⟨a, b⟩ := s
  cases a <;> simp [sV, nmS]
theorem high_state_ok (H : Stt R) (s : St) : R (k + 2) "high_state" [.v (sV s)] [] = .ok (.v (sV (false, s.2))) [] := by
  rw [H.h4]
  simp [X_high_state, has_high_ok H, arr, pick]
  obtain ⟨a, b⟩ := s
  cases b <;> simp [sV, nmS]
theorem with_state_ok (H : Stt R) (x y s : St) (b : Bool) : R (k + 1) "with_state" [.v (ssV x y), .v (lnV b), .v (sV s)] [] = .ok (.v (ssV (if b then x else s) (if b then s else y))) [] := by
  rw [H.h5]
  cases b <;> simp [X_with_state, ssV, lnV, atI, ixN]
theorem ix_st (x y : St) (b : Bool) : ixV (ssV x y) (lnV b) = some (sV (if b then y else x)) := by
  cases b <;> simp [ssV, lnV, atI, ixN]
theorem sub_ln (b : Bool) : B2.s .sub (.int 1) (lnV b) = some (lnV (!b)) := by
  cases b <;> simp [lnV]
@[simp] theorem ne1 : (("is_counting" : Str) = "known") = False := by simp; decide
@[simp] theorem ne2 : (("is_counting" : Str) = "most") = False := by simp; decide
@[simp] theorem ne3 : (("known" : Str) = "most") = False := by simp; decide
@[simp] theorem ne4 : (("is_counting" : Str) = "choices") = False := by simp; decide
@[simp] theorem ne5 : (("known" : Str) = "choices") = False := by simp; decide
@[simp] theorem ne6 : (("known" : Str) = "is_counting") = False := by simp; decide
abbrev tb (cnt : Bool) : HE := .live (.ins "Table" [("is_counting", .v (.bl cnt)), ("known", .r 1)])
structure Tbl (R : FuelV) : Prop where
  st : Stt R
  h1 : HasV R "Table.__init__" 2 2 X_Table___init__
  h2 : HasV R "Table.most" 6 4 X_Table_most
  h3 : HasV R "Table.choices" 9 4 X_Table_choices
  h4 : HasK R "Table" "Table.__init__"
def MostAt (R : FuelV) (cnt : Bool) (N d : Nat) (Ns : List Nat) : Prop := ∀ m, m < 2 ^ d → Met N m → ∀ (k : Nat) (b : Bool) (x y : St) (o : Option (List Qs)), MemOk Ns (o.getD []) → ∃ o', R (k + 2 * d + 3) "Table.most" [.r 0, .v (.int (m : Nat)), .v (lnV b), .v (ssV x y)] [tb cnt, memE cnt o] = .ok (.v (.int (mst cnt m b x y))) [tb cnt, memE cnt o'] ∧ MemOk Ns (o'.getD [])
theorem MostAt.step {cnt : Bool} {N d : Nat} {Ns : List Nat} (ih : MostAt R cnt N d Ns) (c : Bool) {m : Nat} (hm : m < 2 ^ d) (hM : Met N m) (k : Nat) (b : Bool) (x y : St) (o : Option (List Qs)) (ho : MemOk Ns (o.getD [])) :
    ∃ o', ((c = true ∧ R (k + 2 * d + 3) "Table.most" [.r 0, .v (.int (m : Nat)), .v (lnV b), .v (ssV x y)] [tb cnt, memE cnt o] = .ok (.v (.int (mst cnt m b x y))) [tb cnt, memE cnt o']) ∨ (c = false ∧ o' = o)) ∧ MemOk Ns (o'.getD []) := by
  cases c with
  | true => obtain ⟨o', h1, h2⟩ := ih m hm hM k b x y o ho; exact ⟨o', .inl ⟨rfl, h1⟩, h2⟩
  | false => exact ⟨o, .inr ⟨rfl, rfl⟩, ho⟩
def ownQ (cnt : Bool) (b : Bool) (x y : St) : Int := if cnt = true ∨ isNo (if (!b) then y else x) = false then 1 else 0
def bothQ (cnt : Bool) (n : Nat) (b : Bool) (x y : St) : Int := mst cnt (n / 2) (!b) (if b then x else ((if b then y else x).1, false)) (if b then ((if b then y else x).1, false) else y) + mst cnt (n - 1 - n / 2) (!b) (if b then x else (false, (if b then y else x).2)) (if b then (false, (if b then y else x).2) else y)
def pcV (p : Int × Str) : V0 := .tup [.int p.1, .str p.2]
def chs (cnt : Bool) (n : Nat) (b : Bool) (x y : St) : List (Int × Str) :=
  (if (if b then y else x).1 = true then [(1 + mst cnt (n - 1 - n / 2) (!b) x y, ("below" : Str))] else []) ++ ((if (if b then y else x).2 = true then [(1 + mst cnt (n / 2) (!b) x y, ("above" : Str))] else []) ++ [(ownQ cnt b x y + bothQ cnt n b x y, ("between" : Str))])
theorem choices_ok (H : Tbl R) {cnt : Bool} {N d : Nat} {Ns : List Nat} (hN : N < 2 ^ 60) (ih : MostAt R cnt N d Ns) {n : Nat} (h0 : n ≠ 0) (hn : n < 2 ^ (d + 1)) (hm : Met N n) (k : Nat) (b : Bool) (x y : St) (o : Option (List Qs)) (ho : MemOk Ns (o.getD [])) :
    ∃ o', R (k + 2 * d + 4) "Table.choices" [.r 0, .v (.int (n : Nat)), .v (lnV b), .v (ssV x y)] [tb cnt, memE cnt o] = .ok (.r 2) [tb cnt, memE cnt o', .live (.lst ((chs cnt n b x y).map pcV))] ∧ MemOk Ns (o'.getD []) := by
  obtain ⟨m1, m2⟩ := met_half hN hm h0
  have hp : 2 ^ (d + 1) = 2 * 2 ^ d := by rw [Nat.pow_succ]; omega
  have l1 : n / 2 < 2 ^ d := by omega
  have l2 : n - 1 - n / 2 < 2 ^ d := by omega
  have e1 : (n : Int) / 2 = ((n / 2 : Nat) : Int) := by omega
  have e2 : (n : Int) - 1 - ((n / 2 : Nat) : Int) = ((n - 1 - n / 2 : Nat) : Int) := by omega
  cases b
  · obtain ⟨o1, s1, k1⟩ := ih.step x.1 l2 m2 k true x y o ho
    obtain ⟨o2, s2, k2⟩ := ih.step x.2 l1 m1 k true x y o1 k1
    obtain ⟨o3, r3, k3⟩ := ih _ l1 m1 k true (x.1, false) y o2 k2
    obtain ⟨o4, r4, k4⟩ := ih _ l2 m2 k true (false, x.2) y o3 k3
    refine ⟨o4, ?_, k4⟩
    rw [H.h3]
    have e3 := eq_no y
    generalize hhi : n - 1 - n / 2 = hi at *
    generalize hlo : n / 2 = lo at *
    rcases s1 with ⟨c1, t1⟩ | ⟨c1, rfl⟩ <;> rcases s2 with ⟨c2, t2⟩ | ⟨c2, rfl⟩ <;> rw [c1] at r3 <;> rw [c2] at r4 <;> cases hno : isNo y <;> rw [hno] at e3 <;> cases cnt <;>
      simp [X_Table_choices, arr, pick, has_low_ok H.st, has_high_ok H.st, low_state_ok H.st, high_state_ok H.st, with_state_ok H.st, ix_st, sub_ln, chs, ownQ, bothQ, pcV, *]
  · obtain ⟨o1, s1, k1⟩ := ih.step y.1 l2 m2 k false x y o ho
    obtain ⟨o2, s2, k2⟩ := ih.step y.2 l1 m1 k false x y o1 k1
    obtain ⟨o3, r3, k3⟩ := ih _ l1 m1 k false x (y.1, false) o2 k2
    obtain ⟨o4, r4, k4⟩ := ih _ l2 m2 k false x (false, y.2) o3 k3
    refine ⟨o4, ?_, k4⟩
    rw [H.h3]
    have e3 := eq_no x
    generalize hhi : n - 1 - n / 2 = hi at *
    generalize hlo : n / 2 = lo at *
    rcases s1 with ⟨c1, t1⟩ | ⟨c1, rfl⟩ <;> rcases s2 with ⟨c2, t2⟩ | ⟨c2, rfl⟩ <;> rw [c1] at r3 <;> rw [c2] at r4 <;> cases hno : isNo x <;> rw [hno] at e3 <;> cases cnt <;>
      simp [X_Table_choices, arr, pick, has_low_ok H.st, has_high_ok H.st, low_state_ok H.st, high_state_ok H.st, with_state_ok H.st, ix_st, sub_ln, chs, ownQ, bothQ, pcV, *]
end
end PV

set_option Elab.async false
set_option linter.all false
set_option maxRecDepth 100000
set_option maxHeartbeats 1000000
namespace PV
open L2 PyProof.Rows PySem PySem.Spec
section
variable {R : FuelV} {k : Nat}
theorem max_chs (cnt : Bool) {n : Nat} (b : Bool) (x y : St) (h : ¬ (n = 0 ∨ (isNo x = true ∧ isNo y = true))) : ∃ p r, chs cnt n b x y = p :: r ∧ maxL p.1 (r.map (·.1)) = mst cnt n b x y := by
  rw [mst, dif_neg h]
  unfold chs ownQ bothQ
  cases b <;> simp only [Bool.false_eq_true, if_false, if_true, Bool.not_false, Bool.not_true]
  · cases c1 : x.1 <;> cases c2 : x.2 <;> simp only [Bool.false_eq_true, if_false, if_true, List.nil_append, List.cons_append] <;> refine ⟨_, _, rfl, ?_⟩ <;> simp only [maxL, List.map] <;> (repeat' split) <;> omega
  · cases c1 : y.1 <;> cases c2 : y.2 <;> simp only [Bool.false_eq_true, if_false, if_true, List.nil_append, List.cons_append] <;> refine ⟨_, _, rfl, ?_⟩ <;> simp only [maxL, List.map] <;> (repeat' split) <;> omega
theorem dct_mem {cnt : Bool} {o : Option (List Qs)} {H : Hot} {m : Nat} (h : H[m]? = some (memE cnt o)) : dctAt H (.r m) = some (m, memT cnt o) := by
  rw [dct_r, h]
  cases o <;> rfl
theorem in_mem {cnt ng : Bool} {o : Option (List Qs)} {H : Hot} {m : Nat} (h : H[m]? = some (memE cnt o)) (q : Qs) : inW ng (.v (keyV q)) (.r m) H = .ok (.v (.bl (decide (q ∈ o.getD []) != ng))) (H.set m (memE cnt (some (o.getD [])))) := by
  unfold inW
  rw [dct_mem h]
  dsimp only [dvW]
  rw [Option.bind_some, look_mem]
  by_cases hq : q ∈ o.getD []
  · rw [if_pos hq]; simp [inRes, hq, memE]
  · rw [if_neg hq]; simp [inRes, hq, memE]
theorem ix_mem {cnt : Bool} {m0 : List Qs} {H : Hot} {m : Nat} (h : H[m]? = some (memE cnt (some m0))) {q : Qs} (hq : q ∈ m0) : ixW (.r m) (.v (keyV q)) H = .ok (.v (qm cnt q)) (H.set m (memE cnt (some m0))) := by
  unfold ixW
  rw [dct_mem h]
  dsimp only [dvW]
  rw [Option.bind_some, look_mem]
  simp [ixRes, hq, memE]
def adQ (m : List Qs) (q : Qs) : List Qs := if q ∈ m then m else m ++ [q]
theorem mem_ad (m : List Qs) (q : Qs) : q ∈ adQ m q := by
  unfold adQ
  split
  · assumption
  · simp
theorem MemOk.ad {Ns : List Nat} {m : List Qs} {q : Qs} {N : Nat} (h : MemOk Ns m) (hN : N ∈ Ns) (hm : Met N q.1) : MemOk Ns (adQ m q) := by
  unfold adQ
  split
  · exact h
  · exact h.snoc ‹_› hN hm
theorem put_same (cnt : Bool) (q : Qs) (m : List Qs) : (m.map (kvQ cnt)).map (fun p => if p.1 = keyT q then (p.1, qm cnt q) else p) = m.map (kvQ cnt) := by
  rw [List.map_map]
  refine List.map_congr_left fun p _ => ?_
  show (if (kvQ cnt p).1 = keyT q then ((kvQ cnt p).1, qm cnt q) else kvQ cnt p) = kvQ cnt p
  split
  · rename_i h
    have : p = q := keyT_inj h
    subst this
    rfl
  · rfl
theorem store_ad (cnt : Bool) (o : Option (List Qs)) (q : Qs) (hl : (o.getD []).length < sizeLine) : dstoreV (memT cnt o) (keyV q) (qm cnt q) = some (memT cnt (some (adQ (o.getD []) q))) := by
  cases o with
  | none => simp [dstoreV, memT, key_no, tk_key, adQ, dputV, dvalV, kvQ]
  | some m =>
    have hl : m.length < sizeLine := hl
    simp only [Option.getD_some]
    unfold adQ
    split
    · rename_i hq
      have hd : dvalV (m.map (kvQ cnt)) (keyT q) = some (qm cnt q) := by rw [dval_mem, if_pos hq]
      have := put_same cnt q m
      simp only [dstoreV, memT, tk_key, List.length_map, hl, if_true, dputV, hd, Option.isSome_some]
      rw [this]
    · rename_i hq
      exact store_mem cnt m q hq hl
theorem sto_ad {cnt : Bool} {o : Option (List Qs)} {H : Hot} {m : Nat} {env : WEnv} (h : H[m]? = some (memE cnt o)) {q : Qs} (hl : (o.getD []).length < sizeLine) : stoW (.r m) (.v (keyV q)) env (some (qm cnt q, H)) = .ok env (H.set m (memE cnt (some (adQ (o.getD []) q)))) := by
  unfold stoW
  dsimp only
  rw [dct_mem h]
  dsimp only [dvW]
  rw [Option.bind_some, store_ad cnt o q hl]
  rfl
theorem MemOk.small {Ns : List Nat} {m : List Qs} (h : MemOk Ns m) (hl : Ns.length ≤ 100) : m.length < sizeLine := by
  have := h.len
  simp only [sizeLine]
  omega
theorem sto_ad' {cnt : Bool} {o : Option (List Qs)} {H : Hot} {m : Nat} {env : WEnv} {n : Nat} {b : Bool} {x y : St} (hl : (o.getD []).length < sizeLine) (h : H[m]? = some (memE cnt o)) : stoW (.r m) (.v (keyV (n, b, x, y))) env (some (.int (mst cnt n b x y), H)) = .ok env (H.set m (memE cnt (some (adQ (o.getD []) (n, b, x, y))))) := sto_ad (q := (n, b, x, y)) h hl
theorem key_mk (n : Nat) (b : Bool) (x y : St) : (V0.tup [.int (n : Nat), lnV b, ssV x y]) = keyV (n, b, x, y) := rfl
theorem lc_fst {C : WFns} {env : WEnv} {H : Hot} (l : List (Int × Str)) : ∀ acc : List V0, acc.length + l.length < sizeLine → 6 = env.length → lcW (GX.w C (.tp [4, 5])) (TX.w C .yes) (EX.w C (.var 4)) env (l.map pcV) acc H = .ok (acc ++ l.map fun p => .int p.1) H := by
  induction l with
  | nil => intro acc _ _; simp
  | cons p r ih =>
    intro acc ha he
    rw [List.map_cons, lcW_c]
    simp only [List.length_cons] at ha
    have h1 : acc.length < sizeLine := by omega
    match env, he with
    | [a, b, c, d, e, f], _ =>
      simp [pcV, h1]
      have := ih (acc ++ [.int p.1]) (by simp; omega) rfl
      simpa [pcV] using this
theorem most_ok (H : Tbl R) {cnt : Bool} {N : Nat} {Ns : List Nat} (hN : N < 2 ^ 60) (hNs : N ∈ Ns) (hl : Ns.length ≤ 100) : ∀ d, MostAt R cnt N d Ns
  | 0, n, hn, hm, k, b, x, y, o, ho => by
    have : n = 0 := by simpa using hn
    subst this
    refine ⟨o, ?_, ho⟩
    rw [show k + 2 * 0 + 3 = (k + 2) + 1 by omega, H.h2, mst]
    simp [X_Table_most]
  | d + 1, n, hn, hm, k, b, x, y, o, ho => by
    have ih := most_ok H hN hNs hl d (cnt := cnt)
    rw [show k + 2 * (d + 1) + 3 = (k + 2 * d + 4) + 1 by omega]
    by_cases h0 : n = 0
    · subst h0
      refine ⟨o, ?_, ho⟩
      rw [H.h2, mst]
      simp [X_Table_most]
    have h0' : ¬ (n : Int) = 0 := by omega
    by_cases hno : isNo x = true ∧ isNo y = true
    · refine ⟨o, ?_, ho⟩
      rw [H.h2, mst, dif_pos (.inr hno)]
      have hp : 0 < n := by omega
      cases cnt <;> simp [X_Table_most, eq_no2, hno, h0', h0, hp]
    have hno' : (isNo x && isNo y) = false := by
      cases h1 : isNo x <;> cases h2 : isNo y <;> simp [h1, h2] at hno ⊢
    by_cases hq : (n, b, x, y) ∈ o.getD []
    · refine ⟨some (o.getD []), ?_, ho⟩
      rw [H.h2]
      simp [X_Table_most, eq_no2, hno', h0', h0, key_mk, in_mem (cnt := cnt) (o := o) (q := (n, b, x, y)), hq, ix_mem (cnt := cnt) (m0 := o.getD []) (q := (n, b, x, y)), qm]
      done
    · obtain ⟨o1, r1, k1⟩ := choices_ok H hN ih h0 hn hm k b x y (some (o.getD [])) ho
      obtain ⟨p, r, hc, hx⟩ := max_chs cnt b x y (n := n) (by simp only [not_or]; exact ⟨h0, hno⟩)
      have h3 : (chs cnt n b x y).length ≤ 3 := by unfold chs; generalize (if b = true then y else x) = me; obtain ⟨m1, m2⟩ := me; cases m1 <;> cases m2 <;> simp
      have hsz : 0 + (chs cnt n b x y).length < sizeLine := by simp only [sizeLine]; omega
      refine ⟨some (adQ (o1.getD []) (n, b, x, y)), ?_, k1.ad hNs hm⟩
      rw [H.h2]
      have hql : qm cnt (n, b, x, y) = .int (mst cnt n b x y) := rfl
      simp [X_Table_most, eq_no2, hno', h0', h0, key_mk, in_mem (cnt := cnt) (o := o) (q := (n, b, x, y)), hq, arr, pick, r1, lc_fst _ [] hsz, bk]
      have hi : intsV (List.map (fun p => V0.int p.fst) (chs cnt n b x y)) = some ((chs cnt n b x y).map (·.1)) := ints_map fun _ _ => rfl
      rw [hi, hc]
      simp [hx, key_mk, sto_ad' (cnt := cnt) (k1.small hl), ix_mem (cnt := cnt) (m0 := adQ (o1.getD []) (n, b, x, y)) (q := (n, b, x, y)), mem_ad, qm]
      done
end
end PV

set_option Elab.async false
set_option linter.all false
set_option maxRecDepth 100000
set_option maxHeartbeats 1000000
namespace PV
open L2 PyProof.Rows PySem PySem.Spec
section
variable {R : FuelV} {k : Nat}
structure Lst (R : FuelV) : Prop where
  h1 : HasV R "_law_states" 4 0 X__law_states
  h2 : HasV R "_law_less" 1 1 X__law_less
  h3 : HasV R "_law_more" 1 1 X__law_more
  h4 : HasV R "_law_most" 13 5 X__law_most
theorem less_ok (H : Lst R) (s : St) : R (k + 1) "_law_less" [.v (sV s)] [] = .ok (.v (sV (s.1, false))) [] := by
  rw [H.h2]
  simp [X__law_less, in_low]
  obtain ⟨a, b⟩ := s
  cases a <;> simp [sV, nmS]
theorem more_ok (H : Lst R) (s : St) : R (k + 1) "_law_more" [.v (sV s)] [] = .ok (.v (sV (false, s.2))) [] := by
  rw [H.h3]
  simp [X__law_more, in_high]
  obtain ⟨a, b⟩ := s
  cases b <;> simp [sV, nmS]
def LawAt (R : FuelV) (cnt : Bool) (N d : Nat) (Ns : List Nat) : Prop := ∀ m, m < 2 ^ d → Met N m → ∀ (k : Nat) (b : Bool) (x y : St) (o : Option (List Qs)), MemOk Ns (o.getD []) → ∃ o', R (k + d + 3) "_law_most" [.v (.int (m : Nat)), .v (lnV b), .v (ssV x y), .v (.bl cnt), .r 0] [memE cnt o] = .ok (.v (.int (mst cnt m b x y))) [memE cnt o'] ∧ MemOk Ns (o'.getD [])
theorem LawAt.step {cnt : Bool} {N d : Nat} {Ns : List Nat} (ih : LawAt R cnt N d Ns) (c : Bool) {m : Nat} (hm : m < 2 ^ d) (hM : Met N m) (k : Nat) (b : Bool) (x y : St) (o : Option (List Qs)) (ho : MemOk Ns (o.getD [])) :
    ∃ o', ((c = true ∧ R (k + d + 3) "_law_most" [.v (.int (m : Nat)), .v (lnV b), .v (ssV x y), .v (.bl cnt), .r 0] [memE cnt o] = .ok (.v (.int (mst cnt m b x y))) [memE cnt o']) ∨ (c = false ∧ o' = o)) ∧ MemOk Ns (o'.getD []) := by
  cases c with
  | true => obtain ⟨o', h1, h2⟩ := ih m hm hM k b x y o ho; exact ⟨o', .inl ⟨rfl, h1⟩, h2⟩
  | false => exact ⟨o, .inr ⟨rfl, rfl⟩, ho⟩
theorem in_mem1 {cnt ng : Bool} {o : Option (List Qs)} (q : Qs) : inW ng (.v (keyV q)) (.r 0) [memE cnt o] = .ok (.v (.bl (decide (q ∈ o.getD []) != ng))) [memE cnt (some (o.getD []))] := in_mem (m := 0) (by exact rfl) q
theorem ix_mem1 {cnt : Bool} {m0 : List Qs} {n : Nat} {b : Bool} {x y : St} (hq : (n, b, x, y) ∈ m0) : ixW (.r 0) (.v (keyV (n, b, x, y))) [memE cnt (some m0)] = .ok (.v (.int (mst cnt n b x y))) [memE cnt (some m0)] := ix_mem (m := 0) (by exact rfl) hq
theorem sto_ad1 {cnt : Bool} {o : Option (List Qs)} {env : WEnv} {n : Nat} {b : Bool} {x y : St} (hl : (o.getD []).length < sizeLine) : stoW (.r 0) (.v (keyV (n, b, x, y))) env (some (.int (mst cnt n b x y), [memE cnt o])) = .ok env [memE cnt (some (adQ (o.getD []) (n, b, x, y)))] := sto_ad' (m := 0) hl (by exact rfl)
theorem eq_ln0 (b : Bool) : eqV (lnV b) (.int 0) = some (!b) := by cases b <;> simp [lnV]
theorem st_mk (x y : St) : V0.tup [sV x, sV y] = ssV x y := rfl
theorem mxi (i j : Int) : (if i < j then j else i) = max i j := by omega
theorem fin_law {cnt : Bool} {o : Option (List Qs)} {C : WFns} {env : WEnv} {n : Nat} {b : Bool} {x y : St} {v : Int} (hl : (o.getD []).length < sizeLine) (he : env[10]? = some (some (.v (.int v)))) (hv : v = mst cnt n b x y) :
    endW 1 (((stoW (.r 0) (.v (keyV (n, b, x, y))) env (some (.int v, [memE cnt o]))).bind kNxW).bind (kSeqW (SX.w C (.seq (.ret (.var 10)) .nil)))) = .ok (.v (.int (mst cnt n b x y))) [memE cnt (some (adQ (o.getD []) (n, b, x, y)))] := by
  subst hv
  rw [sto_ad1 hl]
  simp [he]
theorem mst_ne {n : Nat} {x y : St} (h : ¬ (n = 0 ∨ (isNo x = true ∧ isNo y = true))) (cnt b : Bool) : mst cnt n b x y =
    (if (if b then y else x).2 = true then max (if (if b then y else x).1 = true then max (ownQ cnt b x y + bothQ cnt n b x y) (1 + mst cnt (n - 1 - n / 2) (!b) x y) else ownQ cnt b x y + bothQ cnt n b x y) (1 + mst cnt (n / 2) (!b) x y) else (if (if b then y else x).1 = true then max (ownQ cnt b x y + bothQ cnt n b x y) (1 + mst cnt (n - 1 - n / 2) (!b) x y) else ownQ cnt b x y + bothQ cnt n b x y)) := by
  rw [mst, dif_neg h]
  rfl
theorem law_most_ok (H : Lst R) {cnt : Bool} {N : Nat} {Ns : List Nat} (hN : N < 2 ^ 60) (hNs : N ∈ Ns) (hl : Ns.length ≤ 100) : ∀ d, LawAt R cnt N d Ns
  | 0, n, hn, hm, k, b, x, y, o, ho => by
    have : n = 0 := by simpa using hn
    subst this
    refine ⟨o, ?_, ho⟩
    rw [show k + 0 + 3 = (k + 2) + 1 by omega, H.h4, mst]
    simp [X__law_most]
  | d + 1, n, hn, hm, k, b, x, y, o, ho => by
    have ih := law_most_ok H hN hNs hl d (cnt := cnt)
    rw [show k + (d + 1) + 3 = (k + d + 3) + 1 by omega]
    by_cases h0 : n = 0
    · subst h0
      refine ⟨o, ?_, ho⟩
      rw [H.h4, mst]
      simp [X__law_most]
    have h0' : ¬ (n : Int) = 0 := by omega
    by_cases hno : isNo x = true ∧ isNo y = true
    · refine ⟨o, ?_, ho⟩
      rw [H.h4, mst, dif_pos (.inr hno)]
      have hp : 0 < n := by omega
      cases cnt <;> simp [X__law_most, eq_no2, hno, h0', h0, hp]
    have hno' : (isNo x && isNo y) = false := by
      cases h1 : isNo x <;> cases h2 : isNo y <;> simp [h1, h2] at hno ⊢
    by_cases hq : (n, b, x, y) ∈ o.getD []
    · refine ⟨some (o.getD []), ?_, ho⟩
      rw [H.h4]
      simp [X__law_most, eq_no2, hno', h0', h0, key_mk, in_mem1, hq, ix_mem1]
    obtain ⟨m1, m2⟩ := met_half hN hm h0
    have hp : 2 ^ (d + 1) = 2 * 2 ^ d := by rw [Nat.pow_succ]; omega
    have l1 : n / 2 < 2 ^ d := by omega
    have l2 : n - 1 - n / 2 < 2 ^ d := by omega
    have eqn : eqV (ssV x y) (.tup [.str "none", .str "none"]) = some false := by rw [eq_no2, hno']
    have e1 : (n : Int) / 2 = ((n / 2 : Nat) : Int) := by omega
    have e2 : (n : Int) - ((n / 2 : Nat) : Int) - 1 = ((n - 1 - n / 2 : Nat) : Int) := by omega
    have hnz : ¬ (n = 0 ∨ (isNo x = true ∧ isNo y = true)) := by simp only [not_or]; exact ⟨h0, hno⟩
    cases b
    · obtain ⟨o1, r1, k1⟩ := ih _ l1 m1 k true (x.1, false) y (some (o.getD [])) ho
      obtain ⟨o2, r2, k2⟩ := ih _ l2 m2 k true (false, x.2) y o1 k1
      obtain ⟨o3, s3, k3⟩ := ih.step x.1 l2 m2 k true x y o2 k2
      obtain ⟨o4, s4, k4⟩ := ih.step x.2 l1 m1 k true x y o3 k3
      refine ⟨some (adQ (o4.getD []) (n, false, x, y)), ?_, k4.ad hNs hm⟩
      rw [H.h4]
      have e3 := eq_no y
      generalize hhi : n - 1 - n / 2 = hi at *
      generalize hlo : n / 2 = lo at *
      rcases s3 with ⟨c1, t1⟩ | ⟨c1, rfl⟩ <;> rcases s4 with ⟨c2, t2⟩ | ⟨c2, rfl⟩ <;> rw [c1] at r1 <;> rw [c2] at r2 <;> cases hn2 : isNo y <;> rw [hn2] at e3 <;> cases cnt <;>
        simp [X__law_most, eqn, h0', h0, key_mk, in_mem1, hq, arr, pick, less_ok H, more_ok H, in_low, in_high, ix_st, sub_ln, e1, e2, e3, r1, r2, c1, c2, eq_ln0, st_mk, *] <;>
        refine fin_law (k4.small hl) rfl ?_ <;> rw [mst_ne hnz] <;> simp only [ownQ, bothQ, hlo, hhi, c1, c2, hn2, if_true, if_false, Bool.false_eq_true, Bool.not_false, Bool.not_true, or_true, or_false, true_or, false_or, reduceCtorEq] <;> omega
    · obtain ⟨o1, r1, k1⟩ := ih _ l1 m1 k false x (y.1, false) (some (o.getD [])) ho
      obtain ⟨o2, r2, k2⟩ := ih _ l2 m2 k false x (false, y.2) o1 k1
      obtain ⟨o3, s3, k3⟩ := ih.step y.1 l2 m2 k false x y o2 k2
      obtain ⟨o4, s4, k4⟩ := ih.step y.2 l1 m1 k false x y o3 k3
      refine ⟨some (adQ (o4.getD []) (n, true, x, y)), ?_, k4.ad hNs hm⟩
      rw [H.h4]
      have e3 := eq_no x
      generalize hhi : n - 1 - n / 2 = hi at *
      generalize hlo : n / 2 = lo at *
      rcases s3 with ⟨c1, t1⟩ | ⟨c1, rfl⟩ <;> rcases s4 with ⟨c2, t2⟩ | ⟨c2, rfl⟩ <;> rw [c1] at r1 <;> rw [c2] at r2 <;> cases hn2 : isNo x <;> rw [hn2] at e3 <;> cases cnt <;>
        simp [X__law_most, eqn, h0', h0, key_mk, in_mem1, hq, arr, pick, less_ok H, more_ok H, in_low, in_high, ix_st, sub_ln, e1, e2, e3, r1, r2, c1, c2, eq_ln0, st_mk, *] <;>
        refine fin_law (k4.small hl) rfl ?_ <;> rw [mst_ne hnz] <;> simp only [ownQ, bothQ, hlo, hhi, c1, c2, hn2, if_true, if_false, Bool.false_eq_true, Bool.not_false, Bool.not_true, or_true, or_false, true_or, false_or, reduceCtorEq] <;> omega
end
end PV

set_option Elab.async false
set_option linter.all false
set_option maxRecDepth 100000
set_option maxHeartbeats 1000000
namespace PV
open L2 PyProof.Rows PySem PySem.Spec
def X_most_of (cnt : Bool) : SX :=
 (.seq (.expr (.call false "require_case" [.pos 0, .pos 1, .pos 2, .pos 3] [] (.cons (.var 0) (.cons (.var 1) (.cons (.var 2) (.cons (.var 3) .nil)))) .nil))
 (.seq (.ret (.mth true "most" [⟨"Table", "Table.most", [.pos 0, .pos 1, .pos 2, .pos 3], []⟩] (.mk true "Table" (.cons (.c (.bl cnt)) .nil)) (.cons (.var 0) (.cons (.var 1) (.cons (.tup (.cons (.var 2) (.cons (.var 3) .nil))) .nil))) .nil))
 .nil))
section
variable {R : FuelV} {k : Nat} {i a b : Int}
structure Cas (R : FuelV) : Prop where
  h1 : HasV R "is_integer" 1 1 X_is_integer
  h2 : HasV R "is_between" 3 3 X_is_between
  h3 : HasV R "require_number" 4 4 X_require_number
  h4 : HasV R "require_states" 4 2 X_require_states
  h5 : HasV R "require_case" 4 4 X_require_case
theorem isint_ok (H : Cas R) : R (k + 1) "is_integer" [.v (.int i)] [] = .ok (.v (.bl true)) [] := by
  rw [H.h1]
  simp [X_is_integer]
theorem isbet_ok (H : Cas R) : R (k + 2) "is_between" [.v (.int i), .v (.int a), .v (.int b)] [] = .ok (.v (.bl (decide (a ≤ i) && decide (i ≤ b)))) [] := by
  rw [H.h2]
  simp [X_is_between, arr, pick, isint_ok H]
  by_cases h : a ≤ i <;> simp [h]
theorem reqnum_ok (H : Cas R) {s : Str} (h1 : a ≤ i) (h2 : i ≤ b) : R (k + 3) "require_number" [.v (.str s), .v (.int i), .v (.int a), .v (.int b)] [] = .ok (.v .non) [] := by
  rw [H.h3]
  simp [X_require_number, arr, pick, isbet_ok H, h1, h2]
theorem isi_st (s : St) : B1.isi.s [sV s, .ty "str"] = some (.bl true) := by exact rfl
theorem reqst_ok (H : Cas R) (x y : St) : R (k + 1) "require_states" [.v (sV x), .v (sV y)] [] = .ok (.v .non) [] := by
  rw [H.h4]
  simp [X_require_states, forW_c, in_st, isi_st]
theorem reqcase_ok (H : Cas R) {n : Nat} (hn : n ≤ 1000000000000000000) (b : Bool) (x y : St) : R (k + 4) "require_case" [.v (.int (n : Nat)), .v (lnV b), .v (sV x), .v (sV y)] [] = .ok (.v .non) [] := by
  rw [H.h5]
  have h1 : (n : Int) ≤ 1000000000000000000 := by omega
  have h0 : (0 : Int) ≤ (n : Int) := by omega
  have r1 := reqnum_ok (k := k) (s := "many") H h0 h1
  cases b
  · have r2 := reqnum_ok (k := k) (s := "axis") (i := 0) (a := 0) (b := 1) H (by omega) (by omega)
    simp [X_require_case, arr, pick, r1, r2, lnV, reqst_ok H]
  · have r2 := reqnum_ok (k := k) (s := "axis") (i := 1) (a := 0) (b := 1) H (by omega) (by omega)
    simp [X_require_case, arr, pick, r1, r2, lnV, reqst_ok H]
theorem init_ok (H : Tbl R) (cnt : Bool) : R (k + 1) "Table.__init__" [.r 0, .v (.bl cnt)] [.live (.ins "Table" [])] = .ok (.v .non) [tb cnt, memE cnt none] := by
  rw [H.h1]
  simp [X_Table___init__, memE, memT]
theorem make_ok (H : Tbl R) (cnt : Bool) : R (k + 2) "Table" [.v (.bl cnt)] [] = .ok (.r 0) [tb cnt, memE cnt none] := by
  rw [H.h4, mkRunW_v]
  have := init_ok (k := k) H cnt
  simp [this]
theorem most_of_ok (HC : Cas R) (HT : Tbl R) {cnt : Bool} {f : Str} (hf : HasV R f 4 4 (X_most_of cnt)) {n : Nat} (hn : n ≤ 1000000000000000000) (b : Bool) (x y : St) : R (k + 130) f [.v (.int (n : Nat)), .v (lnV b), .v (sV x), .v (sV y)] [] = .ok (.v (.int (mst cnt n b x y))) [] := by
  have hN : n < 2 ^ 60 := by omega
  obtain ⟨o', r, _⟩ := most_ok HT (cnt := cnt) (N := n) (Ns := [n]) hN (by simp) (by simp) 60 n hN (met_self n) (k + 6) b x y none ⟨List.nodup_nil, fun q h => (nomatch h)⟩
  have e : k + 6 + 2 * 60 + 3 = k + 129 := by omega
  rw [e] at r
  have r1 := reqcase_ok (k := k + 125) HC hn b x y
  have r2 := make_ok (k := k + 127) HT cnt
  rw [show k + 130 = (k + 129) + 1 by omega, hf]
  simp [X_most_of, arr, pick, r1, r2, st_mk, r, bk]
end
end PV

set_option Elab.async false
set_option linter.all false
set_option maxRecDepth 100000
set_option maxHeartbeats 1000000
namespace PV
open L2 PyProof.Rows PySem PySem.Spec
section
variable {R : FuelV} {k : Nat}
def all16 : List (St × St) := allS.flatMap fun x => allS.map fun y => (x, y)
def stp (p : St × St) : V0 := ssV p.1 p.2
theorem states_ok (H : Lst R) : R (k + 1) "_law_states" [] [] = .ok (.v (.lst (all16.map stp))) [] := by
  rw [H.h1]
  simp [X__law_states, forW_c, lcW_c, all16, allS, stp, ssV, sV, nmS, sizeLine]
theorem ix_0 (x y : St) : ixV (ssV x y) (.int 0) = some (sV x) := ix_st x y false
theorem ix_1 (x y : St) : ixV (ssV x y) (.int 1) = some (sV y) := ix_st x y true
theorem mem_all16 (p : St × St) : p ∈ all16 := List.mem_flatMap.mpr ⟨p.1, mem_allS _, List.mem_map.mpr ⟨p.2, mem_allS _, rfl⟩⟩
/-- the script's inner turn -/
def X_turn (cnt : Bool) (f : Str) : SX :=
 (.seq (.asg (.call false "_law_take" [.pos 0, .pos 1] [] (.cons (.var 2) (.cons (.c (.int 2)) .nil)) .nil) (.nm 9))
 (.seq (.asg (.call false "_law_most" [.pos 0, .pos 1, .pos 2, .pos 3, .pos 4] [] (.cons (.var 5) (.cons (.var 9) (.cons (.var 8) (.cons (.c (.bl cnt)) (.cons (.var 3) .nil))))) .nil) (.nm 10))
 (.seq (.if_ (.tb (.bin .ne false (.call false f [.pos 0, .pos 1, .pos 2, .pos 3] [] (.cons (.var 5) (.cons (.var 9) (.cons (.bin .ix false (.var 8) (.c (.int 0))) (.cons (.bin .ix false (.var 8) (.c (.int 1))) .nil)))) .nil) (.var 10)))
 (.seq (.ret (.c (.bl false)))
 .nil)
 .nil)
 .nil)))
theorem bit_ln {v : Int} (h0 : 0 ≤ v) (h1 : v < 2) : ∃ b, V0.int v = lnV b := by
  rcases (show v = 0 ∨ v = 1 by omega) with rfl | rfl
  · exact ⟨false, rfl⟩
  · exact ⟨true, rfl⟩
theorem turn_ok (HC : Cas R) (HT : Tbl R) (HL : Lst R) (HD : Drw R) {cnt : Bool} {f : Str} (hf : HasV R f 4 4 (X_most_of cnt)) {n : Nat} (hn : n ≤ 1000000000000000000) {Ns : List Nat} (hNs : n ∈ Ns) (hl : Ns.length ≤ 100) {s : Sr} {m : Nat} (hs : SrcOk s (m + 1)) {o : Option (List Qs)} (ho : MemOk Ns (o.getD [])) (x y : St) {a0 a1 a4 a6 a7 a9 a10 : Option W} :
    ∃ (s' : Sr) (o' : Option (List Qs)) (w9 w10 : W), SX.w (R (k + 130)) (X_turn cnt f) [a0, a1, some (.r 0), some (.r 1), a4, some (.v (.int (n : Nat))), a6, a7, some (.v (ssV x y)), a9, a10] [s.e, memE cnt o] = .ok (.nx [a0, a1, some (.r 0), some (.r 1), a4, some (.v (.int (n : Nat))), a6, a7, some (.v (ssV x y)), some w9, some w10]) [s'.e, memE cnt o'] ∧ SrcOk s' m ∧ MemOk Ns (o'.getD []) := by
  obtain ⟨v, s', r1, v0, v1, hs'⟩ := take_ok (k := k + 128) (j := 2) HD hs (by omega) (by omega)
  obtain ⟨b, hb⟩ := bit_ln v0 v1
  rw [hb] at r1
  have hN : n < 2 ^ 60 := by omega
  obtain ⟨o', r2, ho'⟩ := law_most_ok HL (cnt := cnt) hN hNs hl 60 n hN (met_self n) (k + 67) b x y o ho
  rw [show k + 67 + 60 + 3 = k + 130 by omega] at r2
  have r3 := most_of_ok (k := k) HC HT hf hn b x y
  refine ⟨s', o', .v (lnV b), .v (.int (mst cnt n b x y)), ?_, hs', ho'⟩
  simp [X_turn, arr, pick, r1, r2, r3, ix_0, ix_1]
end
end PV

set_option Elab.async false
set_option linter.all false
set_option maxRecDepth 100000
set_option maxHeartbeats 1000000
namespace PV
open L2 PyProof.Rows PySem PySem.Spec
section
variable {R : FuelV} {k : Nat}
def X_mid (b3 : SX) : SX :=
 (.seq (.asg (.ifx (.tb (.bin (.ord .lt) false (.var 5) (.c (.int 100)))) (.call false "_law_states" [] [] .nil .nil) (.lc false [7] (.rg (.cons (.c (.int 2)) .nil)) (.nm 7) .yes (.call false "_law_pick" [.pos 0, .pos 1] [] (.cons (.var 2) (.cons (.call false "_law_states" [] [] .nil .nil) .nil)) .nil))) (.nm 6))
 (.seq (.for_ false (.seq (.var 6)) (.nm 8)
 b3)
 .nil))
theorem pick_st (HL : Lst R) (HD : Drw R) {s : Sr} {m : Nat} (hs : SrcOk s (m + 1)) : ∃ (p : St × St) (s' : Sr), R (k + 3) "_law_pick" [.r 0, .v (.lst (all16.map stp))] [s.e] = .ok (.v (stp p)) [s'.e] ∧ SrcOk s' m := by
  obtain ⟨x, s', r, hx, h⟩ := pick_ok (k := k) (xs := all16.map stp) HD hs (by decide) (by simp [all16, allS])
  obtain ⟨p, _, rfl⟩ := List.mem_map.mp hx
  exact ⟨p, s', r, h⟩
/-- the states that are gone through -/
theorem mid_first (HL : Lst R) (HD : Drw R) {cnt : Bool} {n : Nat} {s : Sr} {m : Nat} (hs : SrcOk s (m + 2)) {o : Option (List Qs)} {a0 a1 a4 a6 a7 a8 a9 a10 : Option W} :
    ∃ (l : List (St × St)) (s' : Sr), l.length ≤ 16 ∧ SrcOk s' m ∧ EX.w (R (k + 130)) (.ifx (.tb (.bin (.ord .lt) false (.var 5) (.c (.int 100)))) (.call false "_law_states" [] [] .nil .nil) (.lc false [7] (.rg (.cons (.c (.int 2)) .nil)) (.nm 7) .yes (.call false "_law_pick" [.pos 0, .pos 1] [] (.cons (.var 2) (.cons (.call false "_law_states" [] [] .nil .nil) .nil)) .nil)))
      [a0, a1, some (.r 0), some (.r 1), a4, some (.v (.int (n : Nat))), a6, a7, a8, a9, a10] [s.e, memE cnt o] = .ok (.v (.lst (l.map stp))) [s'.e, memE cnt o] := by
  have e16 : all16.length = 16 := by decide
  by_cases hn : (n : Int) < 100
  · refine ⟨all16, s, by omega, hs.le (by omega), ?_⟩
    simp [hn, arr, pick, states_ok HL]
  · obtain ⟨p, s1, r1, h1⟩ := pick_st (k := k + 127) HL HD (m := m + 1) hs
    obtain ⟨q, s2, r2, h2⟩ := pick_st (k := k + 127) HL HD (m := m) h1
    refine ⟨[p, q], s2, by simp, h2, ?_⟩
    have hb : small62 2 = true := by decide
    simp [hn, arr, pick, states_ok HL, hb, upToV, lcW_c, r1, r2]
    done
end
end PV

set_option Elab.async false
set_option linter.all false
set_option maxRecDepth 100000
set_option maxHeartbeats 1000000
namespace PV
open L2 PyProof.Rows PySem PySem.Spec
section
variable {R : FuelV} {k : Nat}
theorem mid_ok (HC : Cas R) (HT : Tbl R) (HL : Lst R) (HD : Drw R) {cnt : Bool} {f : Str} (hf : HasV R f 4 4 (X_most_of cnt)) {n : Nat} (hn : n ≤ 1000000000000000000) {Ns : List Nat} (hNs : n ∈ Ns) (hl : Ns.length ≤ 100) {s : Sr} {m : Nat} (hs : SrcOk s (m + 18)) {o : Option (List Qs)} (ho : MemOk Ns (o.getD [])) {a0 a1 a4 a6 a7 a8 a9 a10 : Option W} {Q : Fw0 → Hot → Prop}
    (hQ : ∀ (s' : Sr) (o' : Option (List Qs)) (b6 b7 b8 b9 b10 : Option W), SrcOk s' m → MemOk Ns (o'.getD []) → Q (.nx [a0, a1, some (.r 0), some (.r 1), a4, some (.v (.int (n : Nat))), b6, b7, b8, b9, b10]) [s'.e, memE cnt o']) :
    OkW (SX.w (R (k + 130)) (X_mid (X_turn cnt f)) [a0, a1, some (.r 0), some (.r 1), a4, some (.v (.int (n : Nat))), a6, a7, a8, a9, a10] [s.e, memE cnt o]) Q := by
  obtain ⟨l, s1, hl16, hs1, e⟩ := mid_first (k := k) (cnt := cnt) (n := n) (o := o) (a0 := a0) (a1 := a1) (a4 := a4) (a6 := a6) (a7 := a7) (a8 := a8) (a9 := a9) (a10 := a10) HL HD (m := m + 16) hs
  unfold X_mid
  rw [w_seq, w_asg, e]
  simp
  refine for_map (f := stp) (fun i env H => ∃ (s' : Sr) (o' : Option (List Qs)) (b8 b9 b10 : Option W), env = [a0, a1, some (.r 0), some (.r 1), a4, some (.v (.int (n : Nat))), some (.v (.lst (l.map stp))), a7, b8, b9, b10] ∧ H = [s'.e, memE cnt o'] ∧ SrcOk s' (m + (16 - i)) ∧ MemOk Ns (o'.getD [])) ⟨s1, o, a8, a9, a10, rfl, rfl, hs1, ho⟩ ?_ ?_
  · rintro i _ _ hi ⟨s', o', b8, b9, b10, rfl, rfl, h1, h2⟩ J hJ
    obtain ⟨s2, o2, w9, w10, r, h3, h4⟩ := turn_ok (k := k) (m := m + (16 - (i + 1))) (a0 := a0) (a1 := a1) (a4 := a4) (a6 := some (.v (.lst (l.map stp)))) (a7 := a7) (a9 := b9) (a10 := b10) HC HT HL HD hf hn hNs hl (h1.le (by omega)) h2 (l[i]).1 (l[i]).2
    simp [stp, r]
    exact hJ _ _ ⟨s2, o2, _, _, _, rfl, rfl, h3, h4⟩
  · rintro _ _ ⟨s', o', b8, b9, b10, rfl, rfl, h1, h2⟩
    simp
    exact hQ s' o' _ _ _ _ _ (h1.le (by omega)) h2
end
end PV

set_option Elab.async false
set_option linter.all false
set_option maxRecDepth 100000
set_option maxHeartbeats 1000000
namespace PV
open L2 PyProof.Rows PySem PySem.Spec
def X_cell (cnt : Bool) (f : Str) : SX :=
 (.seq (.asg (.call true "_law_source" [.pos 0] [] (.cons (.var 1) .nil) .nil) (.nm 2))
 (.seq (.asg .dn (.nm 3))
 (.seq (.asg (.lst false (.cons (.call false "_law_take" [.pos 0, .pos 1] [] (.cons (.var 2) (.cons (.c (.int 10)) .nil)) .nil) (.cons (.call false "_law_take" [.pos 0, .pos 1] [] (.cons (.var 2) (.cons (.c (.int 70)) .nil)) .nil) (.cons (.call false "_law_take" [.pos 0, .pos 1] [] (.cons (.var 2) (.cons (.bin .add false (.bin .pow false (.c (.int 10)) (.c (.int 18))) (.c (.int 1))) .nil)) .nil) (.cons (.bin .pow false (.c (.int 10)) (.c (.int 18))) .nil))))) (.nm 4))
 (.seq (.for_ false (.seq (.bin .add false (.var 4) (.lst false (.cons (.call false "_law_take" [.pos 0, .pos 1] [] (.cons (.var 2) (.cons (.bin .pow false (.c (.int 10)) (.c (.int 6))) .nil)) .nil) .nil)))) (.nm 5)
 (X_mid (X_turn cnt f)))
 (.seq (.par 5 8 (.cons (.call false "_law_pick" [.pos 0, .pos 1] [] (.cons (.var 2) (.cons (.var 4) .nil)) .nil) (.cons (.call false "_law_pick" [.pos 0, .pos 1] [] (.cons (.var 2) (.cons (.call false "_law_states" [] [] .nil .nil) .nil)) .nil) .nil)))
 (.seq (.asg (.call false "_law_most" [.pos 0, .pos 1, .pos 2, .pos 3, .pos 4] [] (.cons (.var 5) (.cons (.c (.int 1)) (.cons (.var 8) (.cons (.c (.bl cnt)) (.cons (.var 3) .nil))))) .nil) (.nm 10))
 (.seq (.if_ (.tb (.bin .ne false (.call false f [.kw 3, .kw 2, .kw 1, .kw 0] [] .nil (.cons (.bin .ix false (.var 8) (.c (.int 1))) (.cons (.bin .ix false (.var 8) (.c (.int 0))) (.cons (.c (.int 1)) (.cons (.var 5) .nil))))) (.var 10)))
 (.seq (.ret (.c (.bl false)))
 .nil)
 .nil)
 .nil)))))))
section
variable {R : FuelV} {k : Nat}
theorem nat_of {v : Int} (h : 0 ≤ v) : ∃ n : Nat, v = (n : Nat) := ⟨v.toNat, by omega⟩
theorem cell_turn (HC : Cas R) (HT : Tbl R) (HL : Lst R) (HD : Drw R) {cnt : Bool} {f : Str} (hf : HasV R f 4 4 (X_most_of cnt)) {i : Int} {a0 a2 a3 a4 a5 a6 a7 a8 a9 a10 : Option W} {Q : Fw0 → Hot → Prop}
    (hQ : ∀ (s' : Sr) (o' : Option (List Qs)) (b4 b5 b6 b7 b8 b9 b10 : Option W), Q (.nx [a0, some (.v (.int i)), some (.r 0), some (.r 1), b4, b5, b6, b7, b8, b9, b10]) [s'.e, memE cnt o']) :
    OkW (SX.w (R (k + 130)) (X_cell cnt f) [a0, some (.v (.int i)), a2, a3, a4, a5, a6, a7, a8, a9, a10] []) Q := by
  obtain ⟨s0, r0, h0⟩ := source_ok (k := k + 129) HD i
  obtain ⟨v1, s1, r1, p1, q1, h1⟩ := take_ok (k := k + 128) (j := 10) (m := 1152921504606846975) HD h0 (by omega) (by omega)
  obtain ⟨v2, s2, r2, p2, q2, h2⟩ := take_ok (k := k + 128) (j := 70) (m := 1152921504606846974) HD h1 (by omega) (by omega)
  obtain ⟨v3, s3, r3, p3, q3, h3⟩ := take_ok (k := k + 128) (j := 1000000000000000001) (m := 1152921504606846973) HD h2 (by omega) (by omega)
  obtain ⟨v5, s5, r5, p5, q5, h5⟩ := take_ok (k := k + 128) (j := 1000000) (m := 1152921504606846972) HD h3 (by omega) (by omega)
  obtain ⟨n1, rfl⟩ := nat_of p1
  obtain ⟨n2, rfl⟩ := nat_of p2
  obtain ⟨n3, rfl⟩ := nat_of p3
  obtain ⟨n5, rfl⟩ := nat_of p5
  have em : HE.live (.dk []) = memE cnt none := rfl
  have pw6 : B2.s .pow (.int 10) (.int 6) = some (.int 1000000) := pw_lit (i := 10) 6 (by decide)
  simp [X_cell, arr, pick, r0, r1, r2, r3, r5, em, pw6]
  rw [show ([V0.int (n1 : Nat), .int (n2 : Nat), .int (n3 : Nat), .int 1000000000000000000, .int (n5 : Nat)] : List V0) = List.map (fun n : Nat => V0.int (n : Nat)) [n1, n2, n3, 1000000000000000000, n5] from rfl]
  have hall : ∀ n ∈ [n1, n2, n3, 1000000000000000000, n5], n ≤ 1000000000000000000 := by
    intro n hn
    simp only [List.mem_cons, List.not_mem_nil, or_false] at hn
    omega
  refine ⟨by simp [sizeLine], ?_⟩
  refine for_map (fun j env H => ∃ (s' : Sr) (o' : Option (List Qs)) (b5 b6 b7 b8 b9 b10 : Option W), env = [a0, some (.v (.int i)), some (.r 0), some (.r 1), some (.v (.lst [.int (n1 : Nat), .int (n2 : Nat), .int (n3 : Nat), .int 1000000000000000000])), b5, b6, b7, b8, b9, b10] ∧ H = [s'.e, memE cnt o'] ∧ SrcOk s' (1000 + 18 * (5 - j)) ∧ MemOk [n1, n2, n3, 1000000000000000000, n5] (o'.getD [])) ⟨s5, none, a5, a6, a7, a8, a9, a10, rfl, rfl, h5.le (by omega), ⟨List.nodup_nil, fun q h => (nomatch h)⟩⟩ ?_ ?_
  · rintro j _ _ hj ⟨s', o', b5, b6, b7, b8, b9, b10, rfl, rfl, g1, g2⟩ J hJ
    have hj5 : j < 5 := hj
    simp
    refine mid_ok (m := 1000 + 18 * (5 - (j + 1))) HC HT HL HD hf (hall _ (List.getElem_mem hj)) (List.getElem_mem hj) (by simp) (g1.le (by omega)) g2 fun s'' o'' c6 c7 c8 c9 c10 g3 g4 => ?_
    simp
    exact hJ _ _ ⟨s'', o'', _, _, _, _, _, _, rfl, rfl, g3, g4⟩
  · rintro _ _ ⟨s', o', b5, b6, b7, b8, b9, b10, rfl, rfl, g1, g2⟩
    obtain ⟨x, s6, r6, hx, h6⟩ := pick_ok (k := k + 127) (m := 998) (xs := [.int (n1 : Nat), .int (n2 : Nat), .int (n3 : Nat), .int 1000000000000000000]) HD (g1.le (by omega)) (by simp) (by simp)
    obtain ⟨n, hn, hx, hnN⟩ : ∃ n : Nat, n ≤ 1000000000000000000 ∧ x = .int (n : Nat) ∧ n ∈ [n1, n2, n3, 1000000000000000000, n5] := by
      simp only [List.mem_cons, List.not_mem_nil, or_false] at hx
      rcases hx with h | h | h | h
      · exact ⟨n1, hall _ (by simp), h, by simp⟩
      · exact ⟨n2, hall _ (by simp), h, by simp⟩
      · exact ⟨n3, hall _ (by simp), h, by simp⟩
      · exact ⟨1000000000000000000, hall _ (by simp), h, by simp⟩
    subst hx
    obtain ⟨p, s7, r7, h7⟩ := pick_st (k := k + 127) HL HD (m := 997) h6
    have hN : n < 2 ^ 60 := by omega
    obtain ⟨o2, r8, h8⟩ := law_most_ok HL (cnt := cnt) hN hnN (by simp) 60 n hN (met_self n) (k + 67) true p.1 p.2 o' g2
    rw [show k + 67 + 60 + 3 = k + 130 by omega] at r8
    have r9 := most_of_ok (k := k) HC HT hf hn true p.1 p.2
    have el : lnV true = .int 1 := rfl
    rw [el] at r8 r9
    have r7' : R (k + 127 + 3) "_law_pick" [.r 0, .v (.lst (all16.map stp))] [s6.e] = .ok (.v (ssV p.1 p.2)) [s7.e] := r7
    simp [arr, pick, r6, r7', r8, r9, states_ok HL, ix_0, ix_1]
    exact hQ _ _ _ _ _ _ _ _ _
end
end PV

set_option Elab.async false
set_option linter.all false
set_option maxRecDepth 100000
set_option maxHeartbeats 0
namespace Lw
open L2 PyProof.Rows PySem PySem.Spec PV
def top (i : Nat) : Stmt := PySem.Challenge.pw_planesplits_k69_greatest_numbers_of_coun.main.body.getD i (.Pass ⟨0, 0, 0, 0⟩)
def sub (i j : Nat) : Stmt := match top i with
  | .ClassDef _ _ _ b _ _ _ _ _ _ _ => b.getD j (.Pass ⟨0, 0, 0, 0⟩)
  | _ => .Pass ⟨0, 0, 0, 0⟩
def x_Table___init__ : SX :=
 (.seq (.asg (.tup (.cons (.var 1) (.cons .dn .nil))) (.tq [.fl ["Table"] "is_counting" 0, .fl ["Table"] "known" 0]))
 .nil)
def b_Table___init__ (C : Fns) : FS := x_Table___init__.d C
def e_Table___init__ : Ent := { kd := (.mt "Table" "__init__"), g := "Table.__init__", d := { nm := "__init__", st := sub 15 0, N := ["self", "is_counting"], ps := ["self", "is_counting"] }, qual := "Table.__init__", dfl := [], shs := [], b := b_Table___init__ }
def x_Table_most : SX :=
 (.seq (.if_ (.or (.tb (.bin .eq false (.var 1) (.c (.int 0)))) (.tb (.bin .eq false (.var 3) (.tup (.cons (.c (.str "none")) (.cons (.c (.str "none")) .nil))))))
 (.seq (.ret (.cb .int true (.cons (.and (.bin (.ord .gt) false (.var 1) (.c (.int 0))) (.fld ["Table"] "is_counting" (.var 0))) .nil)))
 .nil)
 .nil)
 (.seq (.if_ (.tb (.bin .notIn false (.tup (.cons (.var 1) (.cons (.var 2) (.cons (.var 3) .nil)))) (.fld ["Table"] "known" (.var 0))))
 (.seq (.asg (.cb .max false (.cons (.lc false [4, 5] (.seq (.mth false "choices" [⟨"Table", "Table.choices", [.pos 0, .pos 1, .pos 2, .pos 3], []⟩] (.var 0) (.cons (.var 1) (.cons (.var 2) (.cons (.var 3) .nil))) .nil)) (.tp [4, 5]) .yes (.var 4)) .nil)) (.sb (.fld ["Table"] "known" (.var 0)) (.tup (.cons (.var 1) (.cons (.var 2) (.cons (.var 3) .nil))))))
 .nil)
 .nil)
 (.seq (.ret (.bin .ix false (.fld ["Table"] "known" (.var 0)) (.tup (.cons (.var 1) (.cons (.var 2) (.cons (.var 3) .nil))))))
 .nil)))
def b_Table_most (C : Fns) : FS := x_Table_most.d C
def e_Table_most : Ent := { kd := (.mt "Table" "most"), g := "Table.most", d := { nm := "most", st := sub 15 1, N := ["self", "many", "axis", "states", "number", "choice"], ps := ["self", "many", "axis", "states"] }, qual := "Table.most", dfl := [], shs := [⟨4, [], [.pos 0, .pos 1, .pos 2, .pos 3]⟩], b := b_Table_most }
def x_Table_choices : SX :=
 (.seq (.par3 4 5 6 (.cons (.bin .fdiv false (.var 1) (.c (.int 2))) (.cons (.bin .sub false (.bin .sub false (.var 1) (.c (.int 1))) (.bin .fdiv false (.var 1) (.c (.int 2)))) (.cons (.lst true .nil) .nil))))
 (.seq (.if_ (.val (.call false "has_low" [.pos 0] [] (.cons (.bin .ix false (.var 3) (.var 2)) .nil) .nil))
 (.seq (.expr (.m .append (.var 6) (.cons (.tup (.cons (.bin .add false (.c (.int 1)) (.mth false "most" [⟨"Table", "Table.most", [.pos 0, .pos 1, .pos 2, .pos 3], []⟩] (.var 0) (.cons (.var 5) (.cons (.bin .sub false (.c (.int 1)) (.var 2)) (.cons (.var 3) .nil))) .nil)) (.cons (.c (.str "below")) .nil))) .nil)))
 .nil)
 .nil)
 (.seq (.if_ (.val (.call false "has_high" [.pos 0] [] (.cons (.bin .ix false (.var 3) (.var 2)) .nil) .nil))
 (.seq (.expr (.m .append (.var 6) (.cons (.tup (.cons (.bin .add false (.c (.int 1)) (.mth false "most" [⟨"Table", "Table.most", [.pos 0, .pos 1, .pos 2, .pos 3], []⟩] (.var 0) (.cons (.var 4) (.cons (.bin .sub false (.c (.int 1)) (.var 2)) (.cons (.var 3) .nil))) .nil)) (.cons (.c (.str "above")) .nil))) .nil)))
 .nil)
 .nil)
 (.seq (.asg (.ifx (.or (.val (.fld ["Table"] "is_counting" (.var 0))) (.tb (.bin .ne false (.bin .ix false (.var 3) (.bin .sub false (.c (.int 1)) (.var 2))) (.c (.str "none"))))) (.c (.int 1)) (.c (.int 0))) (.nm 7))
 (.seq (.asg (.mth false "most" [⟨"Table", "Table.most", [.pos 0, .pos 1, .pos 2, .pos 3], []⟩] (.var 0) (.cons (.var 4) (.cons (.bin .sub false (.c (.int 1)) (.var 2)) (.cons (.call false "with_state" [.pos 0, .pos 1, .pos 2] [] (.cons (.var 3) (.cons (.var 2) (.cons (.call false "low_state" [.pos 0] [] (.cons (.bin .ix false (.var 3) (.var 2)) .nil) .nil) .nil))) .nil) .nil))) .nil) (.nm 8))
 (.seq (.aug 8 .add (.mth false "most" [⟨"Table", "Table.most", [.pos 0, .pos 1, .pos 2, .pos 3], []⟩] (.var 0) (.cons (.var 5) (.cons (.bin .sub false (.c (.int 1)) (.var 2)) (.cons (.call false "with_state" [.pos 0, .pos 1, .pos 2] [] (.cons (.var 3) (.cons (.var 2) (.cons (.call false "high_state" [.pos 0] [] (.cons (.bin .ix false (.var 3) (.var 2)) .nil) .nil) .nil))) .nil) .nil))) .nil))
 (.seq (.ret (.lstS true (.star (.var 6) (.cons (.tup (.cons (.bin .add false (.var 7) (.var 8)) (.cons (.c (.str "between")) .nil))) .nil))))
 .nil)))))))
def b_Table_choices (C : Fns) : FS := x_Table_choices.d C
def e_Table_choices : Ent := { kd := (.mt "Table" "choices"), g := "Table.choices", d := { nm := "choices", st := sub 15 2, N := ["self", "many", "axis", "states", "low", "high", "found", "own", "both"], ps := ["self", "many", "axis", "states"] }, qual := "Table.choices", dfl := [], shs := [⟨4, [], [.pos 0, .pos 1, .pos 2, .pos 3]⟩], b := b_Table_choices }
def x_is_integer : SX :=
 (.seq (.ret (.and (.cb .isi true (.cons (.var 0) (.cons (.c (.ty "int")) .nil))) (.not (.cb .isi false (.cons (.var 0) (.cons (.c (.ty "bool")) .nil))))))
 .nil)
def b_is_integer (C : Fns) : FS := x_is_integer.d C
def e_is_integer : Ent := { kd := .fn, g := "is_integer", d := { nm := "is_integer", st := top 4, N := ["value"], ps := ["value"] }, qual := "is_integer", dfl := [], shs := [⟨1, [], [.pos 0]⟩], b := b_is_integer }
def x_is_between : SX :=
 (.seq (.ret (.and (.call true "is_integer" [.pos 0] [] (.cons (.var 0) .nil) .nil) (.ch (.ord .le) (.ord .le) (.var 1) (.var 0) (.var 2))))
 .nil)
def b_is_between (C : Fns) : FS := x_is_between.d C
def e_is_between : Ent := { kd := .fn, g := "is_between", d := { nm := "is_between", st := top 5, N := ["value", "low", "high"], ps := ["value", "low", "high"] }, qual := "is_between", dfl := [], shs := [⟨3, [], [.pos 0, .pos 1, .pos 2]⟩], b := b_is_between }
def x_require_number : SX :=
 (.seq (.if_ (.not (.val (.call false "is_between" [.pos 0, .pos 1, .pos 2] [] (.cons (.var 1) (.cons (.var 2) (.cons (.var 3) .nil))) .nil)))
 (.seq .stk
 .nil)
 .nil)
 .nil)
def b_require_number (C : Fns) : FS := x_require_number.d C
def e_require_number : Ent := { kd := .fn, g := "require_number", d := { nm := "require_number", st := top 6, N := ["name", "value", "low", "high"], ps := ["name", "value", "low", "high"] }, qual := "require_number", dfl := [], shs := [⟨4, [], [.pos 0, .pos 1, .pos 2, .pos 3]⟩], b := b_require_number }
def x_has_low : SX :=
 (.seq (.ret (.bin .in_ false (.var 0) (.tup (.cons (.c (.str "low")) (.cons (.c (.str "both")) .nil)))))
 .nil)
def b_has_low (C : Fns) : FS := x_has_low.d C
def e_has_low : Ent := { kd := .fn, g := "has_low", d := { nm := "has_low", st := top 10, N := ["state"], ps := ["state"] }, qual := "has_low", dfl := [], shs := [⟨1, [], [.pos 0]⟩], b := b_has_low }
def x_has_high : SX :=
 (.seq (.ret (.bin .in_ false (.var 0) (.tup (.cons (.c (.str "high")) (.cons (.c (.str "both")) .nil)))))
 .nil)
def b_has_high (C : Fns) : FS := x_has_high.d C
def e_has_high : Ent := { kd := .fn, g := "has_high", d := { nm := "has_high", st := top 11, N := ["state"], ps := ["state"] }, qual := "has_high", dfl := [], shs := [⟨1, [], [.pos 0]⟩], b := b_has_high }
def x_low_state : SX :=
 (.seq (.ret (.ifx (.val (.call false "has_low" [.pos 0] [] (.cons (.var 0) .nil) .nil)) (.c (.str "low")) (.c (.str "none"))))
 .nil)
def b_low_state (C : Fns) : FS := x_low_state.d C
def e_low_state : Ent := { kd := .fn, g := "low_state", d := { nm := "low_state", st := top 12, N := ["state"], ps := ["state"] }, qual := "low_state", dfl := [], shs := [⟨1, [], [.pos 0]⟩], b := b_low_state }
def x_high_state : SX :=
 (.seq (.ret (.ifx (.val (.call false "has_high" [.pos 0] [] (.cons (.var 0) .nil) .nil)) (.c (.str "high")) (.c (.str "none"))))
 .nil)
def b_high_state (C : Fns) : FS := x_high_state.d C
def e_high_state : Ent := { kd := .fn, g := "high_state", d := { nm := "high_state", st := top 13, N := ["state"], ps := ["state"] }, qual := "high_state", dfl := [], shs := [⟨1, [], [.pos 0]⟩], b := b_high_state }
def x_with_state : SX :=
 (.seq (.ret (.ifx (.tb (.bin .eq false (.var 1) (.c (.int 0)))) (.tup (.cons (.var 2) (.cons (.bin .ix false (.var 0) (.c (.int 1))) .nil))) (.tup (.cons (.bin .ix false (.var 0) (.c (.int 0))) (.cons (.var 2) .nil)))))
 .nil)
def b_with_state (C : Fns) : FS := x_with_state.d C
def e_with_state : Ent := { kd := .fn, g := "with_state", d := { nm := "with_state", st := top 14, N := ["states", "axis", "state"], ps := ["states", "axis", "state"] }, qual := "with_state", dfl := [], shs := [⟨3, [], [.pos 0, .pos 1, .pos 2]⟩], b := b_with_state }
def x_require_states : SX :=
 (.seq (.for_ false (.seq (.tup (.cons (.tup (.cons (.c (.str "x")) (.cons (.var 0) .nil))) (.cons (.tup (.cons (.c (.str "y")) (.cons (.var 1) .nil))) .nil)))) (.tp [2, 3])
 (.seq (.if_ (.or (.not (.val (.cb .isi false (.cons (.var 3) (.cons (.c (.ty "str")) .nil))))) (.tb (.bin .notIn false (.var 3) (.c (.tup [(.str "none"), (.str "low"), (.str "high"), (.str "both")])))))
 (.seq .stk
 .nil)
 .nil)
 .nil))
 .nil)
def b_require_states (C : Fns) : FS := x_require_states.d C
def e_require_states : Ent := { kd := .fn, g := "require_states", d := { nm := "require_states", st := top 16, N := ["x", "y", "name", "state"], ps := ["x", "y"] }, qual := "require_states", dfl := [], shs := [⟨2, [], [.pos 0, .pos 1]⟩], b := b_require_states }
def x_require_case : SX :=
 (.seq (.expr (.call false "require_number" [.pos 0, .pos 1, .pos 2, .pos 3] [] (.cons (.c (.str "many")) (.cons (.var 0) (.cons (.c (.int 0)) (.cons (.c (.int 1000000000000000000)) .nil)))) .nil))
 (.seq (.expr (.call false "require_number" [.pos 0, .pos 1, .pos 2, .pos 3] [] (.cons (.c (.str "axis")) (.cons (.var 1) (.cons (.c (.int 0)) (.cons (.c (.int 1)) .nil)))) .nil))
 (.seq (.expr (.call false "require_states" [.pos 0, .pos 1] [] (.cons (.var 2) (.cons (.var 3) .nil)) .nil))
 .nil)))
def b_require_case (C : Fns) : FS := x_require_case.d C
def e_require_case : Ent := { kd := .fn, g := "require_case", d := { nm := "require_case", st := top 17, N := ["many", "axis", "x", "y"], ps := ["many", "axis", "x", "y"] }, qual := "require_case", dfl := [], shs := [⟨4, [], [.pos 0, .pos 1, .pos 2, .pos 3]⟩], b := b_require_case }
def x_most_counted : SX :=
 (.seq (.expr (.call false "require_case" [.pos 0, .pos 1, .pos 2, .pos 3] [] (.cons (.var 0) (.cons (.var 1) (.cons (.var 2) (.cons (.var 3) .nil)))) .nil))
 (.seq (.ret (.mth true "most" [⟨"Table", "Table.most", [.pos 0, .pos 1, .pos 2, .pos 3], []⟩] (.mk true "Table" (.cons (.c (.bl true)) .nil)) (.cons (.var 0) (.cons (.var 1) (.cons (.tup (.cons (.var 2) (.cons (.var 3) .nil))) .nil))) .nil))
 .nil))
def b_most_counted (C : Fns) : FS := x_most_counted.d C
def e_most_counted : Ent := { kd := .fn, g := "most_counted", d := { nm := "most_counted", st := top 18, N := ["many", "axis", "x", "y"], ps := ["many", "axis", "x", "y"] }, qual := "most_counted", dfl := [], shs := [⟨4, [], [.pos 0, .pos 1, .pos 2, .pos 3]⟩, ⟨0, ["y", "x", "axis", "many"], [.kw 3, .kw 2, .kw 1, .kw 0]⟩], b := b_most_counted }
def x__law_mixed : SX :=
 (.seq (.asg (.bin .mod false (.cb .int false (.cons (.bin .mul false (.bin .add false (.bin .mod false (.cb .int false (.cons (.var 0) .nil)) (.c (.int 2147483646))) (.c (.int 1))) (.bin .add false (.bin .mul false (.var 1) (.c (.int 7919))) (.c (.int 104729)))) .nil)) (.c (.int 2147483647))) (.nm 2))
 (.seq (.asg (.bin .mod false (.cb .int false (.cons (.bin .mul false (.bin .add false (.var 2) (.bin .mul false (.bin .mod false (.cb .int false (.cons (.bin .fdiv false (.var 0) (.c (.int 2147483646))) .nil)) (.c (.int 1000003))) (.bin .add false (.var 1) (.c (.int 31))))) (.c (.int 48271))) .nil)) (.c (.int 2147483629))) (.nm 2))
 (.seq (.asg (.bin .mod false (.cb .int false (.cons (.bin .mul false (.var 2) (.bin .add false (.bin .add false (.bin .fdiv false (.var 2) (.c (.int 1013))) (.c (.int 69621))) (.var 1))) .nil)) (.c (.int 2147483587))) (.nm 2))
 (.seq (.ret (.bin .mod true (.cb .int false (.cons (.bin .mul false (.var 2) (.bin .add false (.bin .fdiv false (.var 2) (.c (.int 2003))) (.c (.int 40692)))) .nil)) (.c (.int 2147483563))))
 .nil))))
def b__law_mixed (C : Fns) : FS := x__law_mixed.d C
def e__law_mixed : Ent := { kd := .fn, g := "_law_mixed", d := { nm := "_law_mixed", st := top 20, N := ["_law_cell", "_law_draw", "_law_figure"], ps := ["_law_cell", "_law_draw"] }, qual := "_law_mixed", dfl := [], shs := [⟨2, [], [.pos 0, .pos 1]⟩], b := b__law_mixed }
def x__law_source : SX :=
 (.seq (.if_ (.tb (.bin (.ord .ge) false (.cb .abs false (.cons (.var 0) .nil)) (.bin .pow false (.c (.int 10)) (.c (.int 18)))))
 (.seq (.ret (.lst true (.cons (.cb .abs false (.cons (.var 0) .nil)) (.cons (.cb .abs false (.cons (.var 0) .nil)) (.cons (.c (.int 0)) .nil)))))
 .nil)
 .nil)
 (.seq (.ret (.lst true (.cons (.c (.int 0)) (.cons (.cb .abs false (.cons (.var 0) .nil)) (.cons (.c (.int 0)) .nil)))))
 .nil))
def b__law_source (C : Fns) : FS := x__law_source.d C
def e__law_source : Ent := { kd := .fn, g := "_law_source", d := { nm := "_law_source", st := top 21, N := ["_law_cell"], ps := ["_law_cell"] }, qual := "_law_source", dfl := [], shs := [⟨1, [], [.pos 0]⟩], b := b__law_source }
def x__law_take : SX :=
 (.seq (.if_ (.tb (.bin (.ord .gt) false (.bin .ix false (.var 0) (.c (.int 0))) (.c (.int 0))))
 (.seq (.asg (.bin .mod false (.cb .int false (.cons (.bin .ix false (.var 0) (.c (.int 0))) .nil)) (.var 1)) (.nm 2))
 (.seq (.asg (.bin .fdiv false (.bin .ix false (.var 0) (.c (.int 0))) (.var 1)) (.sb (.var 0) (.c (.int 0))))
 (.seq (.ret (.var 2))
 .nil)))
 .nil)
 (.seq (.asg (.bin .add false (.bin .ix false (.var 0) (.c (.int 2))) (.c (.int 1))) (.sb (.var 0) (.c (.int 2))))
 (.seq (.ret (.bin .mod true (.cb .int false (.cons (.call false "_law_mixed" [.pos 0, .pos 1] [] (.cons (.bin .ix false (.var 0) (.c (.int 1))) (.cons (.bin .ix false (.var 0) (.c (.int 2))) .nil)) .nil) .nil)) (.var 1)))
 .nil)))
def b__law_take (C : Fns) : FS := x__law_take.d C
def e__law_take : Ent := { kd := .fn, g := "_law_take", d := { nm := "_law_take", st := top 22, N := ["_law_source_here", "_law_bound", "_law_drawn"], ps := ["_law_source_here", "_law_bound"] }, qual := "_law_take", dfl := [], shs := [⟨2, [], [.pos 0, .pos 1]⟩], b := b__law_take }
def x__law_pick : SX :=
 (.seq (.ret (.bin .ix false (.var 1) (.call false "_law_take" [.pos 0, .pos 1] [] (.cons (.var 0) (.cons (.cb .len false (.cons (.var 1) .nil)) .nil)) .nil)))
 .nil)
def b__law_pick (C : Fns) : FS := x__law_pick.d C
def e__law_pick : Ent := { kd := .fn, g := "_law_pick", d := { nm := "_law_pick", st := top 23, N := ["_law_source_here", "_law_some"], ps := ["_law_source_here", "_law_some"] }, qual := "_law_pick", dfl := [], shs := [⟨2, [], [.pos 0, .pos 1]⟩], b := b__law_pick }
def x__law_states : SX :=
 (.seq (.par 0 1 (.cons (.lst false (.cons (.c (.str "none")) (.cons (.c (.str "low")) (.cons (.c (.str "high")) (.cons (.c (.str "both")) .nil))))) (.cons (.lst false .nil) .nil)))
 (.seq (.for_ false (.seq (.var 0)) (.nm 2)
 (.seq (.asg (.bin .add false (.var 1) (.lc false [3] (.seq (.var 0)) (.nm 3) .yes (.tup (.cons (.var 2) (.cons (.var 3) .nil))))) (.nm 1))
 .nil))
 (.seq (.ret (.var 1))
 .nil)))
def b__law_states (C : Fns) : FS := x__law_states.d C
def e__law_states : Ent := { kd := .fn, g := "_law_states", d := { nm := "_law_states", st := top 24, N := ["_law_words", "_law_found", "_law_first", "_law_last"], ps := [] }, qual := "_law_states", dfl := [], shs := [⟨0, [], []⟩], b := b__law_states }
def x__law_less : SX :=
 (.seq (.ret (.ifx (.tb (.bin .in_ false (.var 0) (.tup (.cons (.c (.str "low")) (.cons (.c (.str "both")) .nil))))) (.c (.str "low")) (.c (.str "none"))))
 .nil)
def b__law_less (C : Fns) : FS := x__law_less.d C
def e__law_less : Ent := { kd := .fn, g := "_law_less", d := { nm := "_law_less", st := top 25, N := ["_law_state"], ps := ["_law_state"] }, qual := "_law_less", dfl := [], shs := [⟨1, [], [.pos 0]⟩], b := b__law_less }
def x__law_more : SX :=
 (.seq (.ret (.ifx (.tb (.bin .in_ false (.var 0) (.tup (.cons (.c (.str "high")) (.cons (.c (.str "both")) .nil))))) (.c (.str "high")) (.c (.str "none"))))
 .nil)
def b__law_more (C : Fns) : FS := x__law_more.d C
def e__law_more : Ent := { kd := .fn, g := "_law_more", d := { nm := "_law_more", st := top 26, N := ["_law_state"], ps := ["_law_state"] }, qual := "_law_more", dfl := [], shs := [⟨1, [], [.pos 0]⟩], b := b__law_more }
def x__law_most : SX :=
 (.seq (.if_ (.or (.tb (.bin .eq false (.var 0) (.c (.int 0)))) (.tb (.bin .eq false (.var 2) (.tup (.cons (.c (.str "none")) (.cons (.c (.str "none")) .nil))))))
 (.seq (.ret (.ifx (.and (.tb (.bin (.ord .gt) false (.var 0) (.c (.int 0)))) (.val (.var 3))) (.c (.int 1)) (.c (.int 0))))
 .nil)
 .nil)
 (.seq (.asg (.tup (.cons (.var 0) (.cons (.var 1) (.cons (.var 2) .nil)))) (.nm 5))
 (.seq (.if_ (.tb (.bin .in_ false (.var 5) (.var 4)))
 (.seq (.ret (.bin .ix false (.var 4) (.var 5)))
 .nil)
 .nil)
 (.seq (.par 6 7 (.cons (.bin .fdiv false (.var 0) (.c (.int 2))) (.cons (.bin .sub false (.bin .sub false (.var 0) (.bin .fdiv false (.var 0) (.c (.int 2)))) (.c (.int 1))) .nil)))
 (.seq (.par 8 9 (.cons (.bin .ix false (.var 2) (.var 1)) (.cons (.bin .ix false (.var 2) (.bin .sub false (.c (.int 1)) (.var 1))) .nil)))
 (.seq (.asg (.ifx (.or (.val (.var 3)) (.tb (.bin .ne false (.var 9) (.c (.str "none"))))) (.c (.int 1)) (.c (.int 0))) (.nm 10))
 (.seq (.asg (.ifx (.tb (.bin .eq false (.var 1) (.c (.int 0)))) (.tup (.cons (.call false "_law_less" [.pos 0] [] (.cons (.var 8) .nil) .nil) (.cons (.var 9) .nil))) (.tup (.cons (.var 9) (.cons (.call false "_law_less" [.pos 0] [] (.cons (.var 8) .nil) .nil) .nil)))) (.nm 11))
 (.seq (.asg (.ifx (.tb (.bin .eq false (.var 1) (.c (.int 0)))) (.tup (.cons (.call false "_law_more" [.pos 0] [] (.cons (.var 8) .nil) .nil) (.cons (.var 9) .nil))) (.tup (.cons (.var 9) (.cons (.call false "_law_more" [.pos 0] [] (.cons (.var 8) .nil) .nil) .nil)))) (.nm 12))
 (.seq (.asg (.bin .add false (.var 10) (.call false "_law_most" [.pos 0, .pos 1, .pos 2, .pos 3, .pos 4] [] (.cons (.var 6) (.cons (.bin .sub false (.c (.int 1)) (.var 1)) (.cons (.var 11) (.cons (.var 3) (.cons (.var 4) .nil))))) .nil)) (.nm 10))
 (.seq (.asg (.bin .add false (.var 10) (.call false "_law_most" [.pos 0, .pos 1, .pos 2, .pos 3, .pos 4] [] (.cons (.var 7) (.cons (.bin .sub false (.c (.int 1)) (.var 1)) (.cons (.var 12) (.cons (.var 3) (.cons (.var 4) .nil))))) .nil)) (.nm 10))
 (.seq (.if_ (.tb (.bin .in_ false (.var 8) (.tup (.cons (.c (.str "low")) (.cons (.c (.str "both")) .nil)))))
 (.seq (.asg (.cb .max false (.cons (.var 10) (.cons (.bin .add false (.c (.int 1)) (.call false "_law_most" [.pos 0, .pos 1, .pos 2, .pos 3, .pos 4] [] (.cons (.var 7) (.cons (.bin .sub false (.c (.int 1)) (.var 1)) (.cons (.var 2) (.cons (.var 3) (.cons (.var 4) .nil))))) .nil)) .nil))) (.nm 10))
 .nil)
 .nil)
 (.seq (.if_ (.tb (.bin .in_ false (.var 8) (.tup (.cons (.c (.str "high")) (.cons (.c (.str "both")) .nil)))))
 (.seq (.asg (.cb .max false (.cons (.var 10) (.cons (.bin .add false (.c (.int 1)) (.call false "_law_most" [.pos 0, .pos 1, .pos 2, .pos 3, .pos 4] [] (.cons (.var 6) (.cons (.bin .sub false (.c (.int 1)) (.var 1)) (.cons (.var 2) (.cons (.var 3) (.cons (.var 4) .nil))))) .nil)) .nil))) (.nm 10))
 .nil)
 .nil)
 (.seq (.asg (.var 10) (.sb (.var 4) (.var 5)))
 (.seq (.ret (.var 10))
 .nil))))))))))))))
def b__law_most (C : Fns) : FS := x__law_most.d C
def e__law_most : Ent := { kd := .fn, g := "_law_most", d := { nm := "_law_most", st := top 27, N := ["_law_total", "_law_lane", "_law_states_here", "_law_is_counting", "_law_known", "_law_key", "_law_low", "_law_high", "_law_mine", "_law_rest", "_law_best", "_law_first", "_law_last"], ps := ["_law_total", "_law_lane", "_law_states_here", "_law_is_counting", "_law_known"] }, qual := "_law_most", dfl := [], shs := [⟨5, [], [.pos 0, .pos 1, .pos 2, .pos 3, .pos 4]⟩], b := b__law_most }
def x_law_b3 : SX :=
 (.seq (.asg (.call false "_law_take" [.pos 0, .pos 1] [] (.cons (.var 2) (.cons (.c (.int 2)) .nil)) .nil) (.nm 9))
 (.seq (.asg (.call false "_law_most" [.pos 0, .pos 1, .pos 2, .pos 3, .pos 4] [] (.cons (.var 5) (.cons (.var 9) (.cons (.var 8) (.cons (.c (.bl true)) (.cons (.var 3) .nil))))) .nil) (.nm 10))
 (.seq (.if_ (.tb (.bin .ne false (.call false "most_counted" [.pos 0, .pos 1, .pos 2, .pos 3] [] (.cons (.var 5) (.cons (.var 9) (.cons (.bin .ix false (.var 8) (.c (.int 0))) (.cons (.bin .ix false (.var 8) (.c (.int 1))) .nil)))) .nil) (.var 10)))
 (.seq (.ret (.c (.bl false)))
 .nil)
 .nil)
 .nil)))
def x_law_b2 : SX :=
 (.seq (.asg (.ifx (.tb (.bin (.ord .lt) false (.var 5) (.c (.int 100)))) (.call false "_law_states" [] [] .nil .nil) (.lc false [7] (.rg (.cons (.c (.int 2)) .nil)) (.nm 7) .yes (.call false "_law_pick" [.pos 0, .pos 1] [] (.cons (.var 2) (.cons (.call false "_law_states" [] [] .nil .nil) .nil)) .nil))) (.nm 6))
 (.seq (.for_ false (.seq (.var 6)) (.nm 8)
 x_law_b3)
 .nil))
def x_law_b1 : SX :=
 (.seq (.asg (.call true "_law_source" [.pos 0] [] (.cons (.var 1) .nil) .nil) (.nm 2))
 (.seq (.asg .dn (.nm 3))
 (.seq (.asg (.lst false (.cons (.call false "_law_take" [.pos 0, .pos 1] [] (.cons (.var 2) (.cons (.c (.int 10)) .nil)) .nil) (.cons (.call false "_law_take" [.pos 0, .pos 1] [] (.cons (.var 2) (.cons (.c (.int 70)) .nil)) .nil) (.cons (.call false "_law_take" [.pos 0, .pos 1] [] (.cons (.var 2) (.cons (.bin .add false (.bin .pow false (.c (.int 10)) (.c (.int 18))) (.c (.int 1))) .nil)) .nil) (.cons (.bin .pow false (.c (.int 10)) (.c (.int 18))) .nil))))) (.nm 4))
 (.seq (.for_ false (.seq (.bin .add false (.var 4) (.lst false (.cons (.call false "_law_take" [.pos 0, .pos 1] [] (.cons (.var 2) (.cons (.bin .pow false (.c (.int 10)) (.c (.int 6))) .nil)) .nil) .nil)))) (.nm 5)
 x_law_b2)
 (.seq (.par 5 8 (.cons (.call false "_law_pick" [.pos 0, .pos 1] [] (.cons (.var 2) (.cons (.var 4) .nil)) .nil) (.cons (.call false "_law_pick" [.pos 0, .pos 1] [] (.cons (.var 2) (.cons (.call false "_law_states" [] [] .nil .nil) .nil)) .nil) .nil)))
 (.seq (.asg (.call false "_law_most" [.pos 0, .pos 1, .pos 2, .pos 3, .pos 4] [] (.cons (.var 5) (.cons (.c (.int 1)) (.cons (.var 8) (.cons (.c (.bl true)) (.cons (.var 3) .nil))))) .nil) (.nm 10))
 (.seq (.if_ (.tb (.bin .ne false (.call false "most_counted" [.kw 3, .kw 2, .kw 1, .kw 0] [] .nil (.cons (.bin .ix false (.var 8) (.c (.int 1))) (.cons (.bin .ix false (.var 8) (.c (.int 0))) (.cons (.c (.int 1)) (.cons (.var 5) .nil))))) (.var 10)))
 (.seq (.ret (.c (.bl false)))
 .nil)
 .nil)
 .nil)))))))
def x_law_t1 : SX :=
 (.seq (.ret (.and (.bin .eq false (.call false "most_counted" [.pos 0, .pos 1, .pos 2, .pos 3] [] (.cons (.bin .pow false (.c (.int 10)) (.c (.int 18))) (.cons (.c (.int 0)) (.cons (.c (.str "none")) (.cons (.c (.str "none")) .nil)))) .nil) (.c (.int 1))) (.bin .eq false (.call false "most_counted" [.pos 0, .pos 1, .pos 2, .pos 3] [] (.cons (.c (.int 0)) (.cons (.c (.int 0)) (.cons (.c (.str "none")) (.cons (.c (.str "none")) .nil)))) .nil) (.c (.int 0)))))
 .nil)
def x_law : SX :=
 (.seq (.for_ true (.seq (.sl false (.bin .add false (.var 0) (.lst false (.cons (.c (.int 0)) .nil))) .none (.some (.c (.int 4))))) (.nm 1)
 x_law_b1)
 x_law_t1)
def b_law (C : Fns) : FS := x_law.d C
def e_law : Ent := { kd := .fn, g := "law", d := { nm := "law", st := top 28, N := ["_law_script", "_law_cell", "_law_source_here", "_law_known", "_law_rows", "_law_total", "_law_some", "_law_turn", "_law_states_here", "_law_lane", "_law_due"], ps := ["_law_script"] }, qual := "law", dfl := [], shs := [], b := b_law }
def e_Table : Ent := { kd := .mk ["is_counting", "known"] "Table.__init__", g := "Table", d := { nm := "", st := .Pass ⟨0, 0, 0, 0⟩, N := [], ps := [] }, qual := "", dfl := [], shs := [], b := fun _ => sStk }
def TX : List EntX := [⟨e_Table___init__, x_Table___init__⟩, ⟨e_Table_most, x_Table_most⟩, ⟨e_Table_choices, x_Table_choices⟩, ⟨e_is_integer, x_is_integer⟩, ⟨e_is_between, x_is_between⟩, ⟨e_require_number, x_require_number⟩, ⟨e_has_low, x_has_low⟩, ⟨e_has_high, x_has_high⟩, ⟨e_low_state, x_low_state⟩, ⟨e_high_state, x_high_state⟩, ⟨e_with_state, x_with_state⟩, ⟨e_require_states, x_require_states⟩, ⟨e_require_case, x_require_case⟩, ⟨e_most_counted, x_most_counted⟩, ⟨e__law_mixed, x__law_mixed⟩, ⟨e__law_source, x__law_source⟩, ⟨e__law_take, x__law_take⟩, ⟨e__law_pick, x__law_pick⟩, ⟨e__law_states, x__law_states⟩, ⟨e__law_less, x__law_less⟩, ⟨e__law_more, x__law_more⟩, ⟨e__law_most, x__law_most⟩, ⟨e_law, x_law⟩, ⟨e_Table, .stk⟩]
def T : List Ent := TX.map (·.e)
def cs : List Str := ["Table"]
def gb : List (Str × Gb) := [("MAX_MANY", .cst (.int 1000000000000000000)), ("STATES", .cst (.tup [(.str "none"), (.str "low"), (.str "high"), (.str "both")])), ("abs", .free), ("bool", .free), ("int", .free), ("isinstance", .free), ("len", .free), ("max", .free), ("range", .free), ("str", .free)]
def gt : List (Str × Gb) := gtOf gb T
def kE : Nat := 40
def kS : Nat := 60
theorem s_Table___init__ : EntS kE kS gt cs T e_Table___init__ where
  sc := fun _ => ⟨rfl, rfl, rfl, by decide +kernel, rfl, by decide +kernel, by decide +kernel⟩
  df := rfl
  body := fun _ C => by kernel_rfl
  mkk := fun _ _ h => nomatch h
  bnd := fun _ K f fd F sh hsh => by
    obtain ⟨kV, doc, pm, an, cdv, ct, rfl⟩ := no_dfl F
    cases hsh
theorem s_Table_most : EntS kE kS gt cs T e_Table_most where
  sc := fun _ => ⟨rfl, rfl, rfl, by decide +kernel, rfl, by decide +kernel, by decide +kernel⟩
  df := rfl
  body := fun _ C => by kernel_rfl
  mkk := fun _ _ h => nomatch h
  bnd := fun _ K f fd F sh hsh => by
    obtain ⟨kV, doc, pm, an, cdv, ct, rfl⟩ := no_dfl F
    replace hsh : sh ∈ [(⟨4, [], [.pos 0, .pos 1, .pos 2, .pos 3]⟩ : PV.Shape)] := hsh
    simp only [List.mem_cons, List.not_mem_nil, or_false] at hsh
    rcases hsh with rfl
    · exact ⟨[], .nil, fun s us ws _ h1 h2 => match us, ws, h1, h2 with | [a0, a1, a2, a3], [], _, _ => .of_eq rfl⟩
theorem s_Table_choices : EntS kE kS gt cs T e_Table_choices where
  sc := fun _ => ⟨rfl, rfl, rfl, by decide +kernel, rfl, by decide +kernel, by decide +kernel⟩
  df := rfl
  body := fun _ C => by kernel_rfl
  mkk := fun _ _ h => nomatch h
  bnd := fun _ K f fd F sh hsh => by
    obtain ⟨kV, doc, pm, an, cdv, ct, rfl⟩ := no_dfl F
    replace hsh : sh ∈ [(⟨4, [], [.pos 0, .pos 1, .pos 2, .pos 3]⟩ : PV.Shape)] := hsh
    simp only [List.mem_cons, List.not_mem_nil, or_false] at hsh
    rcases hsh with rfl
    · exact ⟨[], .nil, fun s us ws _ h1 h2 => match us, ws, h1, h2 with | [a0, a1, a2, a3], [], _, _ => .of_eq rfl⟩
theorem s_is_integer : EntS kE kS gt cs T e_is_integer where
  sc := fun _ => ⟨rfl, rfl, rfl, by decide +kernel, rfl, by decide +kernel, by decide +kernel⟩
  df := rfl
  body := fun _ C => by kernel_rfl
  mkk := fun _ _ h => nomatch h
  bnd := fun _ K f fd F sh hsh => by
    obtain ⟨kV, doc, pm, an, cdv, ct, rfl⟩ := no_dfl F
    replace hsh : sh ∈ [(⟨1, [], [.pos 0]⟩ : PV.Shape)] := hsh
    simp only [List.mem_cons, List.not_mem_nil, or_false] at hsh
    rcases hsh with rfl
    · exact ⟨[], .nil, fun s us ws _ h1 h2 => match us, ws, h1, h2 with | [a0], [], _, _ => .of_eq rfl⟩
theorem s_is_between : EntS kE kS gt cs T e_is_between where
  sc := fun _ => ⟨rfl, rfl, rfl, by decide +kernel, rfl, by decide +kernel, by decide +kernel⟩
  df := rfl
  body := fun _ C => by kernel_rfl
  mkk := fun _ _ h => nomatch h
  bnd := fun _ K f fd F sh hsh => by
    obtain ⟨kV, doc, pm, an, cdv, ct, rfl⟩ := no_dfl F
    replace hsh : sh ∈ [(⟨3, [], [.pos 0, .pos 1, .pos 2]⟩ : PV.Shape)] := hsh
    simp only [List.mem_cons, List.not_mem_nil, or_false] at hsh
    rcases hsh with rfl
    · exact ⟨[], .nil, fun s us ws _ h1 h2 => match us, ws, h1, h2 with | [a0, a1, a2], [], _, _ => .of_eq rfl⟩
theorem s_require_number : EntS kE kS gt cs T e_require_number where
  sc := fun _ => ⟨rfl, rfl, rfl, by decide +kernel, rfl, by decide +kernel, by decide +kernel⟩
  df := rfl
  body := fun _ C => by kernel_rfl
  mkk := fun _ _ h => nomatch h
  bnd := fun _ K f fd F sh hsh => by
    obtain ⟨kV, doc, pm, an, cdv, ct, rfl⟩ := no_dfl F
    replace hsh : sh ∈ [(⟨4, [], [.pos 0, .pos 1, .pos 2, .pos 3]⟩ : PV.Shape)] := hsh
    simp only [List.mem_cons, List.not_mem_nil, or_false] at hsh
    rcases hsh with rfl
    · exact ⟨[], .nil, fun s us ws _ h1 h2 => match us, ws, h1, h2 with | [a0, a1, a2, a3], [], _, _ => .of_eq rfl⟩
theorem s_has_low : EntS kE kS gt cs T e_has_low where
  sc := fun _ => ⟨rfl, rfl, rfl, by decide +kernel, rfl, by decide +kernel, by decide +kernel⟩
  df := rfl
  body := fun _ C => by kernel_rfl
  mkk := fun _ _ h => nomatch h
  bnd := fun _ K f fd F sh hsh => by
    obtain ⟨kV, doc, pm, an, cdv, ct, rfl⟩ := no_dfl F
    replace hsh : sh ∈ [(⟨1, [], [.pos 0]⟩ : PV.Shape)] := hsh
    simp only [List.mem_cons, List.not_mem_nil, or_false] at hsh
    rcases hsh with rfl
    · exact ⟨[], .nil, fun s us ws _ h1 h2 => match us, ws, h1, h2 with | [a0], [], _, _ => .of_eq rfl⟩
theorem s_has_high : EntS kE kS gt cs T e_has_high where
  sc := fun _ => ⟨rfl, rfl, rfl, by decide +kernel, rfl, by decide +kernel, by decide +kernel⟩
  df := rfl
  body := fun _ C => by kernel_rfl
  mkk := fun _ _ h => nomatch h
  bnd := fun _ K f fd F sh hsh => by
    obtain ⟨kV, doc, pm, an, cdv, ct, rfl⟩ := no_dfl F
    replace hsh : sh ∈ [(⟨1, [], [.pos 0]⟩ : PV.Shape)] := hsh
    simp only [List.mem_cons, List.not_mem_nil, or_false] at hsh
    rcases hsh with rfl
    · exact ⟨[], .nil, fun s us ws _ h1 h2 => match us, ws, h1, h2 with | [a0], [], _, _ => .of_eq rfl⟩
theorem s_low_state : EntS kE kS gt cs T e_low_state where
  sc := fun _ => ⟨rfl, rfl, rfl, by decide +kernel, rfl, by decide +kernel, by decide +kernel⟩
  df := rfl
  body := fun _ C => by kernel_rfl
  mkk := fun _ _ h => nomatch h
  bnd := fun _ K f fd F sh hsh => by
    obtain ⟨kV, doc, pm, an, cdv, ct, rfl⟩ := no_dfl F
    replace hsh : sh ∈ [(⟨1, [], [.pos 0]⟩ : PV.Shape)] := hsh
    simp only [List.mem_cons, List.not_mem_nil, or_false] at hsh
    rcases hsh with rfl
    · exact ⟨[], .nil, fun s us ws _ h1 h2 => match us, ws, h1, h2 with | [a0], [], _, _ => .of_eq rfl⟩
theorem s_high_state : EntS kE kS gt cs T e_high_state where
  sc := fun _ => ⟨rfl, rfl, rfl, by decide +kernel, rfl, by decide +kernel, by decide +kernel⟩
  df := rfl
  body := fun _ C => by kernel_rfl
  mkk := fun _ _ h => nomatch h
  bnd := fun _ K f fd F sh hsh => by
    obtain ⟨kV, doc, pm, an, cdv, ct, rfl⟩ := no_dfl F
    replace hsh : sh ∈ [(⟨1, [], [.pos 0]⟩ : PV.Shape)] := hsh
    simp only [List.mem_cons, List.not_mem_nil, or_false] at hsh
    rcases hsh with rfl
    · exact ⟨[], .nil, fun s us ws _ h1 h2 => match us, ws, h1, h2 with | [a0], [], _, _ => .of_eq rfl⟩
theorem s_with_state : EntS kE kS gt cs T e_with_state where
  sc := fun _ => ⟨rfl, rfl, rfl, by decide +kernel, rfl, by decide +kernel, by decide +kernel⟩
  df := rfl
  body := fun _ C => by kernel_rfl
  mkk := fun _ _ h => nomatch h
  bnd := fun _ K f fd F sh hsh => by
    obtain ⟨kV, doc, pm, an, cdv, ct, rfl⟩ := no_dfl F
    replace hsh : sh ∈ [(⟨3, [], [.pos 0, .pos 1, .pos 2]⟩ : PV.Shape)] := hsh
    simp only [List.mem_cons, List.not_mem_nil, or_false] at hsh
    rcases hsh with rfl
    · exact ⟨[], .nil, fun s us ws _ h1 h2 => match us, ws, h1, h2 with | [a0, a1, a2], [], _, _ => .of_eq rfl⟩
theorem s_require_states : EntS kE kS gt cs T e_require_states where
  sc := fun _ => ⟨rfl, rfl, rfl, by decide +kernel, rfl, by decide +kernel, by decide +kernel⟩
  df := rfl
  body := fun _ C => by kernel_rfl
  mkk := fun _ _ h => nomatch h
  bnd := fun _ K f fd F sh hsh => by
    obtain ⟨kV, doc, pm, an, cdv, ct, rfl⟩ := no_dfl F
    replace hsh : sh ∈ [(⟨2, [], [.pos 0, .pos 1]⟩ : PV.Shape)] := hsh
    simp only [List.mem_cons, List.not_mem_nil, or_false] at hsh
    rcases hsh with rfl
    · exact ⟨[], .nil, fun s us ws _ h1 h2 => match us, ws, h1, h2 with | [a0, a1], [], _, _ => .of_eq rfl⟩
theorem s_require_case : EntS kE kS gt cs T e_require_case where
  sc := fun _ => ⟨rfl, rfl, rfl, by decide +kernel, rfl, by decide +kernel, by decide +kernel⟩
  df := rfl
  body := fun _ C => by kernel_rfl
  mkk := fun _ _ h => nomatch h
  bnd := fun _ K f fd F sh hsh => by
    obtain ⟨kV, doc, pm, an, cdv, ct, rfl⟩ := no_dfl F
    replace hsh : sh ∈ [(⟨4, [], [.pos 0, .pos 1, .pos 2, .pos 3]⟩ : PV.Shape)] := hsh
    simp only [List.mem_cons, List.not_mem_nil, or_false] at hsh
    rcases hsh with rfl
    · exact ⟨[], .nil, fun s us ws _ h1 h2 => match us, ws, h1, h2 with | [a0, a1, a2, a3], [], _, _ => .of_eq rfl⟩
theorem s_most_counted : EntS kE kS gt cs T e_most_counted where
  sc := fun _ => ⟨rfl, rfl, rfl, by decide +kernel, rfl, by decide +kernel, by decide +kernel⟩
  df := rfl
  body := fun _ C => by kernel_rfl
  mkk := fun _ _ h => nomatch h
  bnd := fun _ K f fd F sh hsh => by
    obtain ⟨kV, doc, pm, an, cdv, ct, rfl⟩ := no_dfl F
    replace hsh : sh ∈ [(⟨4, [], [.pos 0, .pos 1, .pos 2, .pos 3]⟩ : PV.Shape), (⟨0, ["y", "x", "axis", "many"], [.kw 3, .kw 2, .kw 1, .kw 0]⟩ : PV.Shape)] := hsh
    simp only [List.mem_cons, List.not_mem_nil, or_false] at hsh
    rcases hsh with rfl | rfl
    · exact ⟨[], .nil, fun s us ws _ h1 h2 => match us, ws, h1, h2 with | [a0, a1, a2, a3], [], _, _ => .of_eq rfl⟩
    · exact ⟨[], .nil, fun s us ws _ h1 h2 => match us, ws, h1, h2 with | [], [w0, w1, w2, w3], _, _ => .of_eq rfl⟩
theorem s__law_mixed : EntS kE kS gt cs T e__law_mixed where
  sc := fun _ => ⟨rfl, rfl, rfl, by decide +kernel, rfl, by decide +kernel, by decide +kernel⟩
  df := rfl
  body := fun _ C => by kernel_rfl
  mkk := fun _ _ h => nomatch h
  bnd := fun _ K f fd F sh hsh => by
    obtain ⟨kV, doc, pm, an, cdv, ct, rfl⟩ := no_dfl F
    replace hsh : sh ∈ [(⟨2, [], [.pos 0, .pos 1]⟩ : PV.Shape)] := hsh
    simp only [List.mem_cons, List.not_mem_nil, or_false] at hsh
    rcases hsh with rfl
    · exact ⟨[], .nil, fun s us ws _ h1 h2 => match us, ws, h1, h2 with | [a0, a1], [], _, _ => .of_eq rfl⟩
theorem s__law_source : EntS kE kS gt cs T e__law_source where
  sc := fun _ => ⟨rfl, rfl, rfl, by decide +kernel, rfl, by decide +kernel, by decide +kernel⟩
  df := rfl
  body := fun _ C => by kernel_rfl
  mkk := fun _ _ h => nomatch h
  bnd := fun _ K f fd F sh hsh => by
    obtain ⟨kV, doc, pm, an, cdv, ct, rfl⟩ := no_dfl F
    replace hsh : sh ∈ [(⟨1, [], [.pos 0]⟩ : PV.Shape)] := hsh
    simp only [List.mem_cons, List.not_mem_nil, or_false] at hsh
    rcases hsh with rfl
    · exact ⟨[], .nil, fun s us ws _ h1 h2 => match us, ws, h1, h2 with | [a0], [], _, _ => .of_eq rfl⟩
theorem s__law_take : EntS kE kS gt cs T e__law_take where
  sc := fun _ => ⟨rfl, rfl, rfl, by decide +kernel, rfl, by decide +kernel, by decide +kernel⟩
  df := rfl
  body := fun _ C => by kernel_rfl
  mkk := fun _ _ h => nomatch h
  bnd := fun _ K f fd F sh hsh => by
    obtain ⟨kV, doc, pm, an, cdv, ct, rfl⟩ := no_dfl F
    replace hsh : sh ∈ [(⟨2, [], [.pos 0, .pos 1]⟩ : PV.Shape)] := hsh
    simp only [List.mem_cons, List.not_mem_nil, or_false] at hsh
    rcases hsh with rfl
    · exact ⟨[], .nil, fun s us ws _ h1 h2 => match us, ws, h1, h2 with | [a0, a1], [], _, _ => .of_eq rfl⟩
theorem s__law_pick : EntS kE kS gt cs T e__law_pick where
  sc := fun _ => ⟨rfl, rfl, rfl, by decide +kernel, rfl, by decide +kernel, by decide +kernel⟩
  df := rfl
  body := fun _ C => by kernel_rfl
  mkk := fun _ _ h => nomatch h
  bnd := fun _ K f fd F sh hsh => by
    obtain ⟨kV, doc, pm, an, cdv, ct, rfl⟩ := no_dfl F
    replace hsh : sh ∈ [(⟨2, [], [.pos 0, .pos 1]⟩ : PV.Shape)] := hsh
    simp only [List.mem_cons, List.not_mem_nil, or_false] at hsh
    rcases hsh with rfl
    · exact ⟨[], .nil, fun s us ws _ h1 h2 => match us, ws, h1, h2 with | [a0, a1], [], _, _ => .of_eq rfl⟩
theorem s__law_states : EntS kE kS gt cs T e__law_states where
  sc := fun _ => ⟨rfl, rfl, rfl, by decide +kernel, rfl, by decide +kernel, by decide +kernel⟩
  df := rfl
  body := fun _ C => by kernel_rfl
  mkk := fun _ _ h => nomatch h
  bnd := fun _ K f fd F sh hsh => by
    obtain ⟨kV, doc, pm, an, cdv, ct, rfl⟩ := no_dfl F
    replace hsh : sh ∈ [(⟨0, [], []⟩ : PV.Shape)] := hsh
    simp only [List.mem_cons, List.not_mem_nil, or_false] at hsh
    rcases hsh with rfl
    · exact ⟨[], .nil, fun s us ws _ h1 h2 => match us, ws, h1, h2 with | [], [], _, _ => .of_eq rfl⟩
theorem s__law_less : EntS kE kS gt cs T e__law_less where
  sc := fun _ => ⟨rfl, rfl, rfl, by decide +kernel, rfl, by decide +kernel, by decide +kernel⟩
  df := rfl
  body := fun _ C => by kernel_rfl
  mkk := fun _ _ h => nomatch h
  bnd := fun _ K f fd F sh hsh => by
    obtain ⟨kV, doc, pm, an, cdv, ct, rfl⟩ := no_dfl F
    replace hsh : sh ∈ [(⟨1, [], [.pos 0]⟩ : PV.Shape)] := hsh
    simp only [List.mem_cons, List.not_mem_nil, or_false] at hsh
    rcases hsh with rfl
    · exact ⟨[], .nil, fun s us ws _ h1 h2 => match us, ws, h1, h2 with | [a0], [], _, _ => .of_eq rfl⟩
theorem s__law_more : EntS kE kS gt cs T e__law_more where
  sc := fun _ => ⟨rfl, rfl, rfl, by decide +kernel, rfl, by decide +kernel, by decide +kernel⟩
  df := rfl
  body := fun _ C => by kernel_rfl
  mkk := fun _ _ h => nomatch h
  bnd := fun _ K f fd F sh hsh => by
    obtain ⟨kV, doc, pm, an, cdv, ct, rfl⟩ := no_dfl F
    replace hsh : sh ∈ [(⟨1, [], [.pos 0]⟩ : PV.Shape)] := hsh
    simp only [List.mem_cons, List.not_mem_nil, or_false] at hsh
    rcases hsh with rfl
    · exact ⟨[], .nil, fun s us ws _ h1 h2 => match us, ws, h1, h2 with | [a0], [], _, _ => .of_eq rfl⟩
theorem s__law_most : EntS kE kS gt cs T e__law_most where
  sc := fun _ => ⟨rfl, rfl, rfl, by decide +kernel, rfl, by decide +kernel, by decide +kernel⟩
  df := rfl
  body := fun _ C => by kernel_rfl
  mkk := fun _ _ h => nomatch h
  bnd := fun _ K f fd F sh hsh => by
    obtain ⟨kV, doc, pm, an, cdv, ct, rfl⟩ := no_dfl F
    replace hsh : sh ∈ [(⟨5, [], [.pos 0, .pos 1, .pos 2, .pos 3, .pos 4]⟩ : PV.Shape)] := hsh
    simp only [List.mem_cons, List.not_mem_nil, or_false] at hsh
    rcases hsh with rfl
    · exact ⟨[], .nil, fun s us ws _ h1 h2 => match us, ws, h1, h2 with | [a0, a1, a2, a3, a4], [], _, _ => .of_eq rfl⟩
theorem s_law : EntS kE kS gt cs T e_law where
  sc := fun _ => ⟨rfl, rfl, rfl, by decide +kernel, rfl, by decide +kernel, by decide +kernel⟩
  df := rfl
  body := fun _ C => by kernel_rfl
  mkk := fun _ _ h => nomatch h
  bnd := fun _ K f fd F sh hsh => by
    obtain ⟨kV, doc, pm, an, cdv, ct, rfl⟩ := no_dfl F
    cases hsh
theorem s_Table : EntS kE kS gt cs T e_Table where
  sc := fun h => nomatch h
  df := rfl
  body := fun h => nomatch h
  bnd := fun h => nomatch h
  mkk := fun fl i h => by
    cases h
    refine ⟨e_Table___init__, by kernel_rfl, rfl, fun K f fd F s us _ h1 => ?_⟩
    obtain ⟨kV, doc, pm, an, cdv, ct, rfl⟩ := no_dfl F
    exact match us, h1 with | [a0, a1], _ => .of_eq rfl
theorem hX : ∀ e ∈ TX, ∀ C, e.e.b C = e.x.d C := List.forall_mem_cons.mpr ⟨fun _ => rfl, List.forall_mem_cons.mpr ⟨fun _ => rfl, List.forall_mem_cons.mpr ⟨fun _ => rfl, List.forall_mem_cons.mpr ⟨fun _ => rfl, List.forall_mem_cons.mpr ⟨fun _ => rfl, List.forall_mem_cons.mpr ⟨fun _ => rfl, List.forall_mem_cons.mpr ⟨fun _ => rfl, List.forall_mem_cons.mpr ⟨fun _ => rfl, List.forall_mem_cons.mpr ⟨fun _ => rfl, List.forall_mem_cons.mpr ⟨fun _ => rfl, List.forall_mem_cons.mpr ⟨fun _ => rfl, List.forall_mem_cons.mpr ⟨fun _ => rfl, List.forall_mem_cons.mpr ⟨fun _ => rfl, List.forall_mem_cons.mpr ⟨fun _ => rfl, List.forall_mem_cons.mpr ⟨fun _ => rfl, List.forall_mem_cons.mpr ⟨fun _ => rfl, List.forall_mem_cons.mpr ⟨fun _ => rfl, List.forall_mem_cons.mpr ⟨fun _ => rfl, List.forall_mem_cons.mpr ⟨fun _ => rfl, List.forall_mem_cons.mpr ⟨fun _ => rfl, List.forall_mem_cons.mpr ⟨fun _ => rfl, List.forall_mem_cons.mpr ⟨fun _ => rfl, List.forall_mem_cons.mpr ⟨fun _ => rfl, List.forall_mem_cons.mpr ⟨fun _ => rfl, fun _ h => (nomatch h)⟩⟩⟩⟩⟩⟩⟩⟩⟩⟩⟩⟩⟩⟩⟩⟩⟩⟩⟩⟩⟩⟩⟩⟩
theorem u_Table___init__ : HasV (runV TX) "Table.__init__" 2 2 x_Table___init__ := fun k ds S => runV_fn (e := ⟨e_Table___init__, x_Table___init__⟩) (by kernel_rfl) rfl ds S
theorem u_Table_most : HasV (runV TX) "Table.most" 6 4 x_Table_most := fun k ds S => runV_fn (e := ⟨e_Table_most, x_Table_most⟩) (by kernel_rfl) rfl ds S
theorem u_Table_choices : HasV (runV TX) "Table.choices" 9 4 x_Table_choices := fun k ds S => runV_fn (e := ⟨e_Table_choices, x_Table_choices⟩) (by kernel_rfl) rfl ds S
theorem u_is_integer : HasV (runV TX) "is_integer" 1 1 x_is_integer := fun k ds S => runV_fn (e := ⟨e_is_integer, x_is_integer⟩) (by kernel_rfl) rfl ds S
theorem u_is_between : HasV (runV TX) "is_between" 3 3 x_is_between := fun k ds S => runV_fn (e := ⟨e_is_between, x_is_between⟩) (by kernel_rfl) rfl ds S
theorem u_require_number : HasV (runV TX) "require_number" 4 4 x_require_number := fun k ds S => runV_fn (e := ⟨e_require_number, x_require_number⟩) (by kernel_rfl) rfl ds S
theorem u_has_low : HasV (runV TX) "has_low" 1 1 x_has_low := fun k ds S => runV_fn (e := ⟨e_has_low, x_has_low⟩) (by kernel_rfl) rfl ds S
theorem u_has_high : HasV (runV TX) "has_high" 1 1 x_has_high := fun k ds S => runV_fn (e := ⟨e_has_high, x_has_high⟩) (by kernel_rfl) rfl ds S
theorem u_low_state : HasV (runV TX) "low_state" 1 1 x_low_state := fun k ds S => runV_fn (e := ⟨e_low_state, x_low_state⟩) (by kernel_rfl) rfl ds S
theorem u_high_state : HasV (runV TX) "high_state" 1 1 x_high_state := fun k ds S => runV_fn (e := ⟨e_high_state, x_high_state⟩) (by kernel_rfl) rfl ds S
theorem u_with_state : HasV (runV TX) "with_state" 3 3 x_with_state := fun k ds S => runV_fn (e := ⟨e_with_state, x_with_state⟩) (by kernel_rfl) rfl ds S
theorem u_require_states : HasV (runV TX) "require_states" 4 2 x_require_states := fun k ds S => runV_fn (e := ⟨e_require_states, x_require_states⟩) (by kernel_rfl) rfl ds S
theorem u_require_case : HasV (runV TX) "require_case" 4 4 x_require_case := fun k ds S => runV_fn (e := ⟨e_require_case, x_require_case⟩) (by kernel_rfl) rfl ds S
theorem u_most_counted : HasV (runV TX) "most_counted" 4 4 x_most_counted := fun k ds S => runV_fn (e := ⟨e_most_counted, x_most_counted⟩) (by kernel_rfl) rfl ds S
theorem u__law_mixed : HasV (runV TX) "_law_mixed" 3 2 x__law_mixed := fun k ds S => runV_fn (e := ⟨e__law_mixed, x__law_mixed⟩) (by kernel_rfl) rfl ds S
theorem u__law_source : HasV (runV TX) "_law_source" 1 1 x__law_source := fun k ds S => runV_fn (e := ⟨e__law_source, x__law_source⟩) (by kernel_rfl) rfl ds S
theorem u__law_take : HasV (runV TX) "_law_take" 3 2 x__law_take := fun k ds S => runV_fn (e := ⟨e__law_take, x__law_take⟩) (by kernel_rfl) rfl ds S
theorem u__law_pick : HasV (runV TX) "_law_pick" 2 2 x__law_pick := fun k ds S => runV_fn (e := ⟨e__law_pick, x__law_pick⟩) (by kernel_rfl) rfl ds S
theorem u__law_states : HasV (runV TX) "_law_states" 4 0 x__law_states := fun k ds S => runV_fn (e := ⟨e__law_states, x__law_states⟩) (by kernel_rfl) rfl ds S
theorem u__law_less : HasV (runV TX) "_law_less" 1 1 x__law_less := fun k ds S => runV_fn (e := ⟨e__law_less, x__law_less⟩) (by kernel_rfl) rfl ds S
theorem u__law_more : HasV (runV TX) "_law_more" 1 1 x__law_more := fun k ds S => runV_fn (e := ⟨e__law_more, x__law_more⟩) (by kernel_rfl) rfl ds S
theorem u__law_most : HasV (runV TX) "_law_most" 13 5 x__law_most := fun k ds S => runV_fn (e := ⟨e__law_most, x__law_most⟩) (by kernel_rfl) rfl ds S
theorem u_law : HasV (runV TX) "law" 11 1 x_law := fun k ds S => runV_fn (e := ⟨e_law, x_law⟩) (by kernel_rfl) rfl ds S
theorem u_Table : HasK (runV TX) "Table" "Table.__init__" := fun k ds S => runV_mk (e := ⟨e_Table, .stk⟩) (by kernel_rfl) rfl ds S
theorem hS : ∀ e ∈ T, EntS kE kS gt cs T e := List.forall_mem_cons.mpr ⟨s_Table___init__, List.forall_mem_cons.mpr ⟨s_Table_most, List.forall_mem_cons.mpr ⟨s_Table_choices, List.forall_mem_cons.mpr ⟨s_is_integer, List.forall_mem_cons.mpr ⟨s_is_between, List.forall_mem_cons.mpr ⟨s_require_number, List.forall_mem_cons.mpr ⟨s_has_low, List.forall_mem_cons.mpr ⟨s_has_high, List.forall_mem_cons.mpr ⟨s_low_state, List.forall_mem_cons.mpr ⟨s_high_state, List.forall_mem_cons.mpr ⟨s_with_state, List.forall_mem_cons.mpr ⟨s_require_states, List.forall_mem_cons.mpr ⟨s_require_case, List.forall_mem_cons.mpr ⟨s_most_counted, List.forall_mem_cons.mpr ⟨s__law_mixed, List.forall_mem_cons.mpr ⟨s__law_source, List.forall_mem_cons.mpr ⟨s__law_take, List.forall_mem_cons.mpr ⟨s__law_pick, List.forall_mem_cons.mpr ⟨s__law_states, List.forall_mem_cons.mpr ⟨s__law_less, List.forall_mem_cons.mpr ⟨s__law_more, List.forall_mem_cons.mpr ⟨s__law_most, List.forall_mem_cons.mpr ⟨s_law, List.forall_mem_cons.mpr ⟨s_Table, fun _ h => (nomatch h)⟩⟩⟩⟩⟩⟩⟩⟩⟩⟩⟩⟩⟩⟩⟩⟩⟩⟩⟩⟩⟩⟩⟩⟩
theorem hTab : tabB gt T := tab_of rfl (by decide +kernel)
abbrev R : PySem.W.OpenRow := PySem.W.OpenLaw.row PySem.Challenge.rw_planesplits_k69_greatest_numbers_of_coun
def loose : List PySem.Str := (["PlaneError", "InvalidNumber", "is_integer", "is_between", "require_number", "MAX_MANY", "STATES", "has_low", "has_high", "low_state", "high_state", "with_state", "Table", "require_states", "require_case", "most_counted", "_law_mixed", "_law_source", "_law_take", "_law_pick", "_law_states", "_law_less", "_law_more", "_law_most"] : List PySem.Str)
theorem run (w : World) : HandSHeadRun.RunEq R (PySem.W.view R.prog [28]) (hookP 4 gt T) (obP 4 gt T) 6000 loose w := by
  intro os
  kernel_rfl
theorem bindL (K : PySem.W.Frag) (fd : FuncData) (f : Addr) (F : FunD K e_law.d.nm e_law.qual (defArgs e_law.d.st) (defBody e_law.d.st) (defScope e_law.d.st) e_law.dvs [] f fd) (s : Shared) (u : Value) : BindsTo s fd ⟨[u], []⟩ [("_law_script", u)] := by
  obtain ⟨kV, doc, pm, an, cdv, ct, rfl⟩ := no_dfl F
  exact .of_eq rfl
end Lw

set_option Elab.async false
set_option linter.all false
set_option maxRecDepth 100000
set_option maxHeartbeats 1000000
namespace Lw
open L2 PyProof.Rows PySem PySem.Spec PV
theorem stt : Stt (runV TX) := ⟨u_has_low, u_has_high, u_low_state, u_high_state, u_with_state⟩
theorem tbl : Tbl (runV TX) := ⟨stt, u_Table___init__, u_Table_most, u_Table_choices, u_Table⟩
theorem lst : Lst (runV TX) := ⟨u__law_states, u__law_less, u__law_more, u__law_most⟩
theorem drw : Drw (runV TX) := ⟨u__law_mixed, u__law_source, u__law_take, u__law_pick⟩
theorem cas : Cas (runV TX) := ⟨u_is_integer, u_is_between, u_require_number, u_require_states, u_require_case⟩
theorem mof : HasV (runV TX) "most_counted" 4 4 (X_most_of true) := u_most_counted
def lv : Nat := 130
theorem fin_ok {Q : W → Hot → Prop} (hQ : ∀ a H, a = W.v (.bl true) → Q a H) (k : PS0) (hk : k = SX.w (runV TX (0 + 130)) x_law_t1) (env : WEnv) : OkW (k env []) (EndP 0 Q) := by
  subst hk
  have r := most_of_ok (k := 0) cas tbl mof (n := 1000000000000000000) (by omega) false (false, false) (false, false)
  have e : mst true 1000000000000000000 false (false, false) (false, false) = 1 := by rw [mst]; simp [isNo]
  rw [e] at r
  have r' : runV TX (0 + 130) "most_counted" [.v (.int 1000000000000000000), .v (.int 0), .v (.str "none"), .v (.str "none")] [] = .ok (.v (.int 1)) [] := r
  have s := most_of_ok (k := 0) cas tbl mof (n := 0) (by omega) false (false, false) (false, false)
  have e2 : mst true 0 false (false, false) (false, false) = 0 := by rw [mst]; simp [isNo]
  rw [e2] at s
  have s' : runV TX (0 + 130) "most_counted" [.v (.int 0), .v (.int 0), .v (.str "none"), .v (.str "none")] [] = .ok (.v (.int 0)) [] := s
  simp [x_law_t1, arr, pick, r', s']
  exact hQ _ _ rfl
theorem mainV (ns : List Int) (hl : ns.length ≤ 63) (hb : ∀ i ∈ ns, Builtin.Int.intBits i ≤ 1048576) : ∃ H, runV TX (lv + 1) "law" [.v (.fz (ns.map V0.int))] [] = .ok (.v (.bl true)) H := by
  suffices h : OkW (runV TX (lv + 1) "law" [.v (.fz (ns.map V0.int))] []) fun w _ => w = .v (.bl true) by
    obtain ⟨w, H, e, rfl⟩ := h.ex
    exact ⟨H, e⟩
  refine okw_abs fun Q hQ => ?_
  have hz : sizeLine = 16777216 := rfl
  rw [u_law, show lv = 0 + 130 from rfl]
  simp only [x_law]
  generalize hkk : SX.w (runV TX (0 + 130)) x_law_t1 = kk
  generalize hRR : runV TX (0 + 130) = RR at *
  simp [hz, head_eq, hkk]
  refine ⟨by omega, ?_⟩
  generalize cutG (ns ++ [0]) none (some 4) = ms
  generalize hsc : V0.fz (ns.map V0.int) = sc
  replace hkk := hkk.symm
  refine for_map (I := fun _ env H => H = [] ∧ ∃ x1 x2 x3 x4 x5 x6 x7 x8 x9 x10, env = [some (.v sc), x1, x2, x3, x4, x5, x6, x7, x8, x9, x10]) ⟨rfl, _, _, _, _, _, _, _, _, _, _, rfl⟩ ?_ ?_
  · rintro t env H0 ht ⟨rfl, x1, x2, x3, x4, x5, x6, x7, x8, x9, x10, rfl⟩ J hJ
    generalize ms[t] = cell
    simp
    subst hRR
    refine cell_turn (k := 0) cas tbl lst drw mof ?_
    intro s' o' y4 y5 y6 y7 y8 y9 y10
    simp
    exact hJ _ _ ⟨rfl, _, _, _, _, _, _, _, _, _, _, rfl⟩
  · rintro env H0 ⟨rfl, _⟩
    subst hRR
    exact fin_ok hQ kk hkk env
end Lw

theorem Lw.main (ns : List Int) (hl : ns.length ≤ 63) (hb : ∀ i ∈ ns, PySem.Builtin.Int.intBits i ≤ 1048576) : ∃ S', PV.runT Lw.T (Lw.lv + 1) "law" [.fz (ns.map PV.D.int)] [] = .ok (.bl true) S' :=
  let ⟨_, h⟩ := Lw.mainV ns hl hb
  PV.run_true Lw.hX h
open PySem PySem.W PySem.Calls PyProof.Rows in
theorem PySem.Challenge.cw_planesplits_k69_greatest_numbers_of_coun_holds : PySem.Challenge.rw_planesplits_k69_greatest_numbers_of_coun.Holds := by
  w_on; o_law
  refine HandSHeadRun.head_any (r := OpenLaw.row PySem.Challenge.rw_planesplits_k69_greatest_numbers_of_coun) (q := view (OpenLaw.row PySem.Challenge.rw_planesplits_k69_greatest_numbers_of_coun).prog [28]) (H := PV.hookP 4 Lw.gt Lw.T) (ob := PV.obP 4 Lw.gt Lw.T) (M := 6000) (loose := Lw.loose) (d := HandSHeadRun.topDef (OpenLaw.row PySem.Challenge.rw_planesplits_k69_greatest_numbers_of_coun).prog 28) (kwd := []) (PV.obP_eq 4 Lw.gt Lw.T)
    (by kernel_rfl) (fun s => by kernel_rfl) Lw.run (by kernel_rfl) (by kernel_rfl) (by kernel_rfl) (by rfl) (by first | assumption | decide +kernel) (by decide +kernel) ⟨rfl, rfl, rfl, rfl, rfl, by decide +kernel⟩ ?hw ?hc
  case hw => w_witness2
  case hc =>
    refine PV.walk_t (l := PySem.Challenge.rw_planesplits_k69_greatest_numbers_of_coun) (n := 63) (k := Lw.lv) (e := Lw.e_law) (T := Lw.T) (kE := Lw.kE) (kS := Lw.kS) (gl := PV.glOf Lw.gt) (cs := Lw.cs) (x := "_law_script") rfl (by decide) (by kernel_rfl) ⟨rfl, by decide, by decide⟩ (by kernel_rfl) rfl rfl ?F Lw.main
    intro w mg h Y G
    obtain ⟨K, KX, c⟩ := Y
    obtain ⟨h1, h2⟩ := PV.says_ok (mw := ⟨mg, w⟩) KX G c Lw.hS Lw.hTab
    exact ⟨K, KX, h1, h2, fun fd f F => Lw.bindL K fd f F⟩
