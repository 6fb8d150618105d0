import PyProof.Rows.All
import PyProof.ExcClass3
import PyProof.ExcInit
import PyProof.StationsW
import PyProof.InstStoreFacts
import PyProof.RulesDel
import PyProof.Rows.CatchOwn
import Wide.Seal
import OpenK.KCall
import KE.KIsNot
import KE.KIsAll
import Wide.FinOn
import OpenK.AllK
import Wide.All
import PySem.Challenge.RW_pq0863_01
set_option Elab.async false
set_option genSizeOf false
section
open PySem PySem.W PyProof.Rows PySem.Calls
set_option maxRecDepth 100000
set_option genSizeOf false
namespace Mine

/-- plain data: what a value of the run tells -/
inductive D where
  | none
  | bool (b : Bool)
  | int (i : Int)
  | str (s : Str)
  | tup (l : List D)
  | lst (l : List D)
  | rng (n : Nat)
  | inst (c : Nat) (fs : List (Nat × D))
  | dct (l : List (Str × D))
  | top (n : Nat)

/-- an object without a dict of its own -/
noncomputable def NoDict (h : Heap) (a : Addr) : Prop := ∀ o, h.get? a = some o → o.dict = none
/-- a name out of its number (signs as digits by 256, the first sign the highest) -/
noncomputable def decGo : Nat → Nat → List Nat → List Nat
  | 0, _, acc => acc
  | k + 1, n, acc => if n = 0 then acc else decGo k (n / 256) (n % 256 :: acc)
noncomputable def dec (n : Nat) : Str := ⟨(decGo 64 n []).toArray⟩
noncomputable def enc (s : Str) : Nat := s.cps.toList.foldl (fun a c => a * 256 + c) 0
/-- names that an object may bear untold -/
noncomputable def exemptL : List Nat := [435777793139, 435811607411, 7630704, 440005651813, 474316301683, 126896627347060, 482671228019, 27713630382682739, 431198598248, 465625246068, 495806934644, 1718969708, 29380524337030515, 1890029705619886272115, 1834257145426581812339, 1976699461532356398454293542495602, 1835099237, 1945221618120625054580]
noncomputable def exempt (b : Str) : Bool := exemptL.any fun n => dec n == b
/-- a dict that holds no other names -/
noncomputable def Only (od : Obj) (fs : List (Nat × D)) : Prop := ∀ b, (∀ p ∈ fs, dec p.1 ≠ b) → exempt b = false → lookIn b od = some none

section
variable (prog : Program) (w : World) (mg : Str → Option Value) (P : Addr → Prop) (h : Heap)
mutual
/-- the value is told by the datum, in this heap; its own addresses lie in P -/
inductive RelV : Value → D → Prop
  | none : RelV .none .none
  | bool (b) : RelV (.bool b) (.bool b)
  | int (i t) : RelV (.int i t) (.int i)
  | str (s t) : RelV (.str s t) (.str s)
  | tup {a : Addr} {vs : List Value} {ds : List D} : P a → IsTup h a vs.toArray → RelL vs ds → NoDict h a → RelV (.ref a) (.tup ds)
  | lst {a : Addr} {vs : List Value} {ds : List D} : P a → h.IsList a vs.toArray → RelL vs ds → RelV (.ref a) (.lst ds)
  | rng {a : Addr} {n : Nat} {t u v : Tok} : P a → IsRange h a 0 n 1 t u v → RelV (.ref a) (.rng n)
  | inst {x C dx : Addr} {ox od : Obj} {c : Nat} {fs : List (Nat × D)} : P x → P dx → ox.dict = some dx → mg (dec c) = some (.ref C) → InstAt h x ox C (some od) → RelF od fs → Only od fs → RelV (.ref x) (.inst c fs)
  | dct {a : Addr} {kvs : List (Str × Value)} {es : List (Str × D)} : P a → (a == sysModules) = false → h.DictOf (PySem.strKind prog w) a kvs → RelE kvs es → RelV (.ref a) (.dct es)
  | top {n : Nat} {v : Value} : mg (dec n) = some v → RelV v (.top n)
inductive RelL : List Value → List D → Prop
  | nil : RelL [] []
  | cons {v d vs ds} : RelV v d → RelL vs ds → RelL (v :: vs) (d :: ds)
inductive RelF : Obj → List (Nat × D) → Prop
  | nil {od} : RelF od []
  | cons {od n d v fs} : lookIn (dec n) od = some (some v) → RelV v d → RelF od fs → RelF od ((n, d) :: fs)
inductive RelE : List (Str × Value) → List (Str × D) → Prop
  | nil : RelE [] []
  | cons {k v d vs ds} : RelV v d → RelE vs ds → RelE ((k, v) :: vs) ((k, d) :: ds)
end
end

theorem hide {T : Prop} (h : ∀ G : Prop, (T → G) → G) : T := h T id
theorem nn {β : Type} {d : β} {G : Prop} (h : none = some d) : G := nomatch h
theorem ns {β : Type} {d : β} {G : Prop} (h : some d = none) : G := nomatch h
theorem nz {β : Type} {o : Option β} {G : Prop} (h : o = none) (k : o.isSome = true) : G := nomatch (congrArg Option.isSome h).symm.trans k
theorem nf {G : Prop} (h : false = true) : G := nomatch h
section
variable {prog : Program} {w : World} {mg : Str → Option Value} {P : Addr → Prop} {h : Heap} {M : Value → Prop} {ML : List Value → Prop} {ME : List (Str × Value) → Prop} {G : Prop} {v : Value}
theorem RelL.eNil {vs : List Value} (r : RelL prog w mg P h vs []) (k : ML []) : ML vs := by cases r; exact k
theorem RelL.eCons {vs : List Value} {d : D} {ds : List D} (r : RelL prog w mg P h vs (d :: ds)) (k : ∀ v vs, RelV prog w mg P h v d → RelL prog w mg P h vs ds → ML (v :: vs)) : ML vs := by cases r with | cons a b => exact k _ _ a b
theorem RelE.eNil {vs : List (Str × Value)} (r : RelE prog w mg P h vs []) (k : ME []) : ME vs := by cases r; exact k
theorem RelE.eCons {vs : List (Str × Value)} {d : Str × D} {ds : List (Str × D)} (r : RelE prog w mg P h vs (d :: ds)) (k : ∀ v vs, RelV prog w mg P h v d.2 → RelE prog w mg P h vs ds → ME ((d.1, v) :: vs)) : ME vs := by cases r with | cons a b => exact k _ _ a b
theorem RelF.eCons {od : Obj} {d : Nat × D} {ds : List (Nat × D)} (r : RelF prog w mg P h od (d :: ds)) (k : ∀ v, lookIn (dec d.1) od = some (some v) → RelV prog w mg P h v d.2 → RelF prog w mg P h od ds → G) : G := by cases r with | cons a b c => exact k _ a b c
variable (prog w mg P h v) in
/-- what a value is, by its datum -/
def RelInv : D → Prop
  | .none => ∀ {M : Value → Prop}, M .none → M v
  | .bool b => ∀ {M : Value → Prop}, M (.bool b) → M v
  | .int i => ∀ {M : Value → Prop}, (∀ t, M (.int i t)) → M v
  | .str x => ∀ {M : Value → Prop}, (∀ t, M (.str x t)) → M v
  | .tup ds => ∀ {M : Value → Prop}, (∀ a vs, P a → IsTup h a vs.toArray → RelL prog w mg P h vs ds → NoDict h a → M (.ref a)) → M v
  | .lst ds => ∀ {M : Value → Prop}, (∀ a vs, P a → h.IsList a vs.toArray → RelL prog w mg P h vs ds → M (.ref a)) → M v
  | .rng n => ∀ {M : Value → Prop}, (∀ a t u x, P a → IsRange h a 0 n 1 t u x → M (.ref a)) → M v
  | .inst c fs => ∀ {M : Value → Prop}, (∀ x C dx ox od, P x → P dx → ox.dict = some dx → mg (dec c) = some (.ref C) → InstAt h x ox C (some od) → RelF prog w mg P h od fs → Only od fs → M (.ref x)) → M v
  | .dct es => ∀ {M : Value → Prop}, (∀ a kvs, P a → (a == sysModules) = false → h.DictOf (PySem.strKind prog w) a kvs → RelE prog w mg P h kvs es → M (.ref a)) → M v
  | .top n => mg (dec n) = some v
theorem RelV.inv {d : D} (r : RelV prog w mg P h v d) : RelInv prog w mg P h v d :=
  RelV.casesOn (motive_1 := fun v d _ => RelInv prog w mg P h v d) r (fun k => k) (fun _ _ k => k) (fun _ t _ k => k t) (fun _ t _ k => k t) (fun a b c d _ k => k _ _ a b c d) (fun a b c _ k => k _ _ a b c) (fun a b _ k => k _ _ _ _ a b)
    (fun a b c d e f g _ k => k _ _ _ _ _ a b c d e f g) (fun a b c d _ k => k _ _ a b c d) (fun a => a)
theorem RelV.eNone (r : RelV prog w mg P h v .none) (k : M .none) : M v := r.inv k
theorem RelV.eBool {b : Bool} (r : RelV prog w mg P h v (.bool b)) (k : M (.bool b)) : M v := r.inv k
theorem RelV.eInt {i : Int} (r : RelV prog w mg P h v (.int i)) (k : ∀ t, M (.int i t)) : M v := r.inv k
theorem RelV.eStr {x : Str} (r : RelV prog w mg P h v (.str x)) (k : ∀ t, M (.str x t)) : M v := r.inv k
theorem RelV.eTup {ds : List D} (r : RelV prog w mg P h v (.tup ds)) (k : ∀ a vs, P a → IsTup h a vs.toArray → RelL prog w mg P h vs ds → NoDict h a → M (.ref a)) : M v := r.inv k
theorem RelV.eLst {ds : List D} (r : RelV prog w mg P h v (.lst ds)) (k : ∀ a vs, P a → h.IsList a vs.toArray → RelL prog w mg P h vs ds → M (.ref a)) : M v := r.inv k
theorem RelV.eRng {n : Nat} (r : RelV prog w mg P h v (.rng n)) (k : ∀ a t u v, P a → IsRange h a 0 n 1 t u v → M (.ref a)) : M v := r.inv k
theorem RelV.eInst {c : Nat} {fs : List (Nat × D)} (r : RelV prog w mg P h v (.inst c fs)) (k : ∀ x C dx ox od, P x → P dx → ox.dict = some dx → mg (dec c) = some (.ref C) → InstAt h x ox C (some od) → RelF prog w mg P h od fs → Only od fs → M (.ref x)) : M v := r.inv k
theorem RelV.eDct {es : List (Str × D)} (r : RelV prog w mg P h v (.dct es)) (k : ∀ a kvs, P a → (a == sysModules) = false → h.DictOf (PySem.strKind prog w) a kvs → RelE prog w mg P h kvs es → M (.ref a)) : M v := r.inv k
section
variable {G : Prop}
theorem RelV.qBool {b : Bool} (r : RelV prog w mg P h v (.bool b)) (k : v = .bool b → G) : G := r.eBool (M := fun v' => v = v' → G) k rfl
theorem RelV.qNone (r : RelV prog w mg P h v .none) (k : v = .none → G) : G := r.eNone (M := fun v' => v = v' → G) k rfl
theorem RelV.qInt {i : Int} (r : RelV prog w mg P h v (.int i)) (k : ∀ t, v = .int i t → G) : G := r.eInt (M := fun v' => v = v' → G) k rfl
theorem RelV.qStr {x : Str} (r : RelV prog w mg P h v (.str x)) (k : ∀ t, v = .str x t → G) : G := r.eStr (M := fun v' => v = v' → G) k rfl
theorem RelV.qTup {ds : List D} (r : RelV prog w mg P h v (.tup ds)) (k : ∀ a vs, v = .ref a → P a → IsTup h a vs.toArray → RelL prog w mg P h vs ds → NoDict h a → G) : G := r.eTup (M := fun v' => v = v' → G) (fun a vs b c d f e => k a vs e b c d f) rfl
theorem RelV.qLst {ds : List D} (r : RelV prog w mg P h v (.lst ds)) (k : ∀ a vs, v = .ref a → P a → h.IsList a vs.toArray → RelL prog w mg P h vs ds → G) : G := r.eLst (M := fun v' => v = v' → G) (fun a vs b c d e => k a vs e b c d) rfl
theorem RelV.qRng {n : Nat} (r : RelV prog w mg P h v (.rng n)) (k : ∀ a t u x, v = .ref a → P a → IsRange h a 0 n 1 t u x → G) : G := r.eRng (M := fun v' => v = v' → G) (fun a t u x b c e => k a t u x e b c) rfl
theorem RelV.qInst {c : Nat} {fs : List (Nat × D)} (r : RelV prog w mg P h v (.inst c fs)) (k : ∀ x C dx ox od, v = .ref x → P x → P dx → ox.dict = some dx → mg (dec c) = some (.ref C) → InstAt h x ox C (some od) → RelF prog w mg P h od fs → Only od fs → G) : G :=
  r.eInst (M := fun v' => v = v' → G) (fun x y z t u a b c d f g i e => k x y z t u e a b c d f g i) rfl
theorem RelV.qDct {es : List (Str × D)} (r : RelV prog w mg P h v (.dct es)) (k : ∀ a kvs, v = .ref a → P a → (a == sysModules) = false → h.DictOf (PySem.strKind prog w) a kvs → RelE prog w mg P h kvs es → G) : G := r.eDct (M := fun v' => v = v' → G) (fun x y a b c d e => k x y e a b c d) rfl
end
theorem RelV.eTop {n : Nat} (r : RelV prog w mg P h v (.top n)) (k : mg (dec n) = some v → M v) : M v := k r.inv
end
theorem iO {α β : Type} {o : Option α} {f : α → Option β} {d : β} {G : Prop} (h : (match o with | some x => f x | none => none) = some d) (k : ∀ x, o = some x → f x = some d → G) : G := by
  cases o with
  | none => exact nn h
  | some x => exact k x rfl h
theorem iB {β : Type} {c : Prop} [Decidable c] {o : Option β} {d : β} {G : Prop} (h : (if c then o else none) = some d) (k : c → o = some d → G) : G := by
  by_cases q : c
  · rw [if_pos q] at h; exact k q h
  · rw [if_neg q] at h; exact nn h
section
variable {prog : Program} {w : World} {mg : Str → Option Value} {P P' : Addr → Prop} {h h' : Heap}

theorem InstAt.at' {x C dx : Addr} {ox od : Obj} (I : InstAt h x ox C (some od)) (hd : ox.dict = some dx) (k1 : ∀ o, h.get? x = some o → h'.get? x = some o) (k2 : ∀ o, h.get? dx = some o → h'.get? dx = some o) :
    InstAt h' x ox C (some od) := by
  obtain ⟨a, b, c, d⟩ := I
  rw [hd] at d
  refine ⟨k1 _ a, b, c, ?_⟩
  rw [hd]
  exact k2 _ d

theorem InstAt.dct {x C dx : Addr} {ox od : Obj} (I : InstAt h x ox C (some od)) (hd : ox.dict = some dx) : h.get? dx = some od := by
  obtain ⟨a, b, c, d⟩ := I
  rw [hd] at d
  exact d
section
variable (hk : ∀ b o, P b → h.get? b = some o → h'.get? b = some o ∧ P' b)
include hk
theorem RelV.mono {v : Value} {d : D} (r : RelV prog w mg P h v d) : RelV prog w mg P' h' v d :=
  RelV.rec (motive_1 := fun v d _ => RelV prog w mg P' h' v d) (motive_2 := fun vs ds _ => RelL prog w mg P' h' vs ds) (motive_3 := fun od fs _ => RelF prog w mg P' h' od fs) (motive_4 := fun vs ds _ => RelE prog w mg P' h' vs ds)
    .none .bool .int .str
    (fun hp ht _ nd l => have ⟨o, ho, r⟩ := ht; .tup (hk _ _ hp ho).2 ⟨o, (hk _ _ hp ho).1, r⟩ l (fun o' e => nd o' (by rw [(hk _ _ hp ho).1] at e; cases e; exact ho)))
    (fun hp ht _ l => have ⟨o, ho, r⟩ := ht; .lst (hk _ _ hp ho).2 ⟨o, (hk _ _ hp ho).1, r⟩ l)
    (fun hp hr => .rng (hk _ _ hp hr).2 (hk _ _ hp hr).1)
    (fun h1 h2 h3 h4 I _ on f => .inst (hk _ _ h1 I.at_).2 (hk _ _ h2 (InstAt.dct I h3)).2 h3 h4 (InstAt.at' I h3 (fun o e => (hk _ o h1 e).1) (fun o e => (hk _ o h2 e).1)) f on)
    (fun hp hs hd _ e => have ⟨o, es, ep, ho, r⟩ := hd; .dct (hk _ _ hp ho).2 hs ⟨o, es, ep, (hk _ _ hp ho).1, r⟩ e)
    (fun e => .top e)
    .nil (fun _ _ a b => .cons a b) .nil (fun e _ _ a b => .cons e a b) .nil (fun _ _ a b => .cons a b) r
theorem RelL.mono {vs : List Value} {ds : List D} (r : RelL prog w mg P h vs ds) : RelL prog w mg P' h' vs ds := by
  induction ds generalizing vs with
  | nil => apply RelL.eNil r; exact .nil
  | cons d ds ih => apply RelL.eCons r; exact fun v vs a b => .cons (RelV.mono hk a) (ih b)
theorem RelF.mono {od : Obj} {fs : List (Nat × D)} (r : RelF prog w mg P h od fs) : RelF prog w mg P' h' od fs := by
  induction fs with
  | nil => exact .nil
  | cons d ds ih => apply RelF.eCons r; exact fun v e a b => .cons e (RelV.mono hk a) (ih b)
theorem RelE.mono {vs : List (Str × Value)} {ds : List (Str × D)} (r : RelE prog w mg P h vs ds) : RelE prog w mg P' h' vs ds := by
  induction ds generalizing vs with
  | nil => apply RelE.eNil r; exact .nil
  | cons d ds ih => apply RelE.eCons r; exact fun v vs a b => .cons (RelV.mono hk a) (ih b)
end

theorem RelL.length {vs : List Value} {ds : List D} (r : RelL prog w mg P h vs ds) : vs.length = ds.length := by
  induction ds generalizing vs with
  | nil => apply RelL.eNil r; rfl
  | cons d ds ih => apply RelL.eCons r; exact fun v vs a b => congrArg (· + 1) (ih b)
theorem RelL.get {vs : List Value} {ds : List D} (r : RelL prog w mg P h vs ds) {i : Nat} {d : D} (e : ds[i]? = some d) : ∃ v, vs[i]? = some v ∧ RelV prog w mg P h v d := by
  induction ds generalizing vs i with
  | nil => cases e
  | cons d' ds ih =>
    apply RelL.eCons r
    intro v vs a b
    cases i with
    | zero => cases e; exact ⟨v, rfl, a⟩
    | succ i => exact ih b e
theorem RelL.append {vs ws : List Value} {ds es : List D} (r : RelL prog w mg P h vs ds) (r' : RelL prog w mg P h ws es) : RelL prog w mg P h (vs ++ ws) (ds ++ es) := by
  induction ds generalizing vs with
  | nil => apply RelL.eNil r; exact r'
  | cons d ds ih => apply RelL.eCons r; exact fun v vs a b => .cons a (ih b)
theorem lookup_cases {α β : Type} [BEq α] [LawfulBEq α] {n k : α} {d x : β} {l : List (α × β)} {G : Prop} (e : List.lookup n ((k, x) :: l) = some d) (h1 : n = k → x = d → G) (h2 : n ≠ k → List.lookup n l = some d → G) : G := by
  rw [List.lookup_cons] at e
  cases hn : n == k with
  | true => rw [hn] at e; exact h1 (eq_of_beq hn) (Option.some.inj e)
  | false => rw [hn] at e; exact h2 (ne_of_beq_false hn) e
theorem RelF.get {od : Obj} {fs : List (Nat × D)} (r : RelF prog w mg P h od fs) {n : Nat} {d : D} (e : fs.lookup n = some d) : ∃ v, lookIn (dec n) od = some (some v) ∧ RelV prog w mg P h v d := by
  induction fs with
  | nil => cases e
  | cons p fs ih =>
    apply RelF.eCons r
    intro v e0 a b
    exact lookup_cases e (fun q q' => ⟨v, q ▸ e0, q' ▸ a⟩) fun _ e => ih b e
theorem valueAt_eq {k : Str} {v : Value} {vs : List (Str × Value)} : valueAt ((k, v) :: vs) k = some v := by simp [valueAt]
theorem valueAt_ne {k n : Str} {v : Value} {vs : List (Str × Value)} (q : n ≠ k) : valueAt ((k, v) :: vs) n = valueAt vs n := by
  have : ¬ (k = n) := fun q' => q q'.symm
  simp [valueAt, this]
theorem RelE.get {vs : List (Str × Value)} {ds : List (Str × D)} (r : RelE prog w mg P h vs ds) {n : Str} {d : D} (e : ds.lookup n = some d) : ∃ v, valueAt vs n = some v ∧ RelV prog w mg P h v d := by
  induction ds generalizing vs with
  | nil => cases e
  | cons p ds ih =>
    apply RelE.eCons r
    intro v vs a b
    exact lookup_cases e (fun q q' => ⟨v, q ▸ valueAt_eq, q' ▸ a⟩) fun q e => let ⟨u, hu, hr⟩ := ih b e; ⟨u, (valueAt_ne q).trans hu, hr⟩
theorem RelE.get_none {vs : List (Str × Value)} {ds : List (Str × D)} (r : RelE prog w mg P h vs ds) {n : Str} (e : ds.lookup n = none) : valueAt vs n = none := by
  induction ds generalizing vs with
  | nil => apply RelE.eNil r; simp [valueAt]
  | cons p ds ih =>
    apply RelE.eCons r
    intro v vs a b
    rw [List.lookup_cons] at e
    cases hn : n == p.1 with
    | true => rw [hn] at e; cases e
    | false => rw [hn] at e; exact (valueAt_ne (ne_of_beq_false hn)).trans (ih b e)

mutual
/-- the plain part, as the library's data -/
noncomputable def toPy : D → Option PyData
  | .none => some .none
  | .bool b => some (.bool b)
  | .int i => some (.int i)
  | .str s => some (.str s)
  | .tup l => (toPys l).map .tuple
  | .lst l => (toPys l).map .list
  | _ => none
noncomputable def toPys : List D → Option (List PyData)
  | [] => some []
  | d :: r => match toPy d with
    | some x => match toPys r with
      | some y => some (x :: y)
      | none => none
    | none => none
end
section
variable {β : Type} {d : β} {G : Prop}
theorem iPy {o : Option PyData} {f : PyData → Option β} (h : (match o with | some x => f x | none => none) = some d) (k : ∀ x, o = some x → f x = some d → G) : G := by
  cases o with
  | none => exact nn h
  | some x => exact k x rfl h
theorem iPs {o : Option (List PyData)} {f : List PyData → Option β} (h : (match o with | some x => f x | none => none) = some d) (k : ∀ x, o = some x → f x = some d → G) : G := by
  cases o with
  | none => exact nn h
  | some x => exact k x rfl h
end
theorem RelV.reads {d : D} {v : Value} {p : PyData} (r : RelV prog w mg P h v d) : toPy d = some p → ∃ as, Reads h v p as :=
  RelV.rec (motive_1 := fun v d _ => ∀ p, toPy d = some p → ∃ as, Reads h v p as) (motive_2 := fun vs ds _ => ∀ ps, toPys ds = some ps → ∃ as, ReadsAll h vs ps as) (motive_3 := fun _ _ _ => True) (motive_4 := fun _ _ _ => True)
    (fun _ e => Option.some.inj e ▸ ⟨_, .none⟩) (fun b _ e => Option.some.inj e ▸ ⟨_, .bool b⟩) (fun i t _ e => Option.some.inj e ▸ ⟨_, .int i t⟩) (fun s t _ e => Option.some.inj e ▸ ⟨_, .str s t⟩)
    (fun _ ht _ _ l p e => by
      obtain ⟨o, ho, hc, n, hd⟩ := ht
      obtain ⟨xs, ex, rfl⟩ := Option.map_eq_some_iff.mp (show (toPys _).map PyData.tuple = some p from e)
      obtain ⟨as, r⟩ := l _ ex
      exact ⟨_, .tuple ho hc hd r⟩)
    (fun _ ht _ l p e => by
      obtain ⟨o, ho, hc, n, hd⟩ := ht
      obtain ⟨xs, ex, rfl⟩ := Option.map_eq_some_iff.mp (show (toPys _).map PyData.list = some p from e)
      obtain ⟨as, r⟩ := l _ ex
      exact ⟨_, .list ho hc hd r⟩)
    (fun _ _ _ e => nomatch e) (fun _ _ _ _ _ _ _ _ _ e => nomatch e) (fun _ _ _ _ _ _ e => nomatch e) (fun _ _ e => nomatch e)
    (fun _ e => Option.some.inj e ▸ ⟨_, .nil⟩)
    (fun _ _ a b p e => by
      apply iPy e; clear e; intro x hx e
      apply iPs e; clear e; intro y hy e
      exact (a _ hx).elim fun as r => (b _ hy).elim fun bs r' => Option.some.inj e ▸ ⟨_, .cons r r'⟩)
    trivial (fun _ _ _ _ _ => trivial) trivial (fun _ _ _ _ => trivial) r p
theorem RelL.reads {ds : List D} {vs : List Value} {ps : List PyData} (r : RelL prog w mg P h vs ds) (e : toPys ds = some ps) : ∃ as, ReadsAll h vs ps as := by
  induction ds generalizing vs ps with
  | nil => apply RelL.eNil r; exact Option.some.inj e ▸ ⟨_, .nil⟩
  | cons d ds ih =>
    apply RelL.eCons r
    intro v vs a b
    apply iPy e; clear e; intro x hx e
    apply iPs e; clear e; intro y hy e
    exact (RelV.reads a hx).elim fun as r => (ih b hy).elim fun bs r' => Option.some.inj e ▸ ⟨_, .cons r r'⟩
end
end Mine
end

section
open PySem PySem.W PyProof.Rows PySem.Calls
set_option maxRecDepth 100000
namespace Mine

noncomputable def FreshIn (P : Addr → Prop) (h : Heap) : Prop := ∀ a, h.get? a = none → P a
theorem FreshIn.keeps {P : Addr → Prop} {h h' : Heap} (F : FreshIn P h) (hk : ∀ b o, h.get? b = some o → h'.get? b = some o) : FreshIn P h' := fun a e => F a (by
  cases q : h.get? a with
  | none => rfl
  | some o => rw [hk a o q] at e; cases e)
theorem get_size (h : Heap) : h.get? h.objs.size = none := by
  cases q : h.get? h.objs.size with
  | none => rfl
  | some o => exact absurd (Heap.lt_size q) (Nat.lt_irrefl _)
theorem FreshIn.size {P : Addr → Prop} {h : Heap} (F : FreshIn P h) : P h.objs.size := F _ (get_size h)

theorem kRfl (s : Shared) : Keeps s s := ⟨s.heap, s.toks, rfl, fun _ _ e => e⟩
theorem kTk (s : Shared) (t : Nat) : Keeps s { s with toks := t } := ⟨s.heap, t, rfl, fun _ _ e => e⟩
theorem kTr {s s' s'' : Shared} (a : Keeps s s') (b : Keeps s' s'') : Keeps s s'' := by
  obtain ⟨h, t, rfl, k⟩ := a
  obtain ⟨h', t', rfl, k'⟩ := b
  exact ⟨h', t', rfl, fun x o e => k' x o (k x o e)⟩
theorem kp {s s' : Shared} (a : Keeps s s') : ∀ b o, s.heap.get? b = some o → s'.heap.get? b = some o := by
  obtain ⟨h, t, rfl, k⟩ := a
  exact k
theorem kPush (s : Shared) (o : Obj) (t : Nat) : Keeps s { s with heap := s.heap.push o, toks := t } := ⟨_, t, rfl, fun _ _ e => Heap.get?_push_of_some _ e⟩

section
variable {prog : Program} {w : World} {mg : Str → Option Value} {P : Addr → Prop}
theorem RelV.keeps {s s' : Shared} {v : Value} {d : D} (r : RelV prog w mg P s.heap v d) (k : Keeps s s') : RelV prog w mg P s'.heap v d := r.mono fun b o p e => ⟨kp k b o e, p⟩
theorem RelL.keeps {s s' : Shared} {v : List Value} {d : List D} (r : RelL prog w mg P s.heap v d) (k : Keeps s s') : RelL prog w mg P s'.heap v d := RelL.mono (fun b o p e => ⟨kp k b o e, p⟩) r

/-- what an expression's end tells -/
noncomputable def Post (prog : Program) (w : World) (mg : Str → Option Value) (P : Addr → Prop) (s : Shared) (d : D) (v : Value) (s' : Shared) : Prop := Keeps s s' ∧ RelV prog w mg P s'.heap v d

theorem newTup {s : Shared} {vs : List Value} {ds : List D} (F : FreshIn P s.heap) (r : RelL prog w mg P s.heap vs ds) (t : Nat) :
    Post prog w mg P s (.tup ds) (.ref s.heap.objs.size) { s with heap := s.heap.push { cls := .type "tuple", data := .seq vs.toArray }, toks := t } :=
  have k := kPush s { cls := .type "tuple", data := .seq vs.toArray } t
  ⟨k, .tup F.size (IsTup.new _ _) (r.keeps k) (fun o e => by rw [Heap.get?_push_size _ rfl] at e; cases e; rfl)⟩
theorem newLst {s : Shared} {vs : List Value} {ds : List D} (F : FreshIn P s.heap) (r : RelL prog w mg P s.heap vs ds) (t : Nat) :
    Post prog w mg P s (.lst ds) (.ref s.heap.objs.size) { s with heap := s.heap.push { cls := .type "list", data := .seq vs.toArray }, toks := t } :=
  have k := kPush s { cls := .type "list", data := .seq vs.toArray } t
  ⟨k, .lst F.size ⟨_, Heap.get?_push_size _ rfl, rfl, _, rfl⟩ (r.keeps k)⟩
end

noncomputable def isStrD : D → Bool
  | .str _ => true
  | _ => false
noncomputable def eqT (a b : D) : Option Bool := match toPy a with
  | some x => match toPy b with
    | some y => if x.canLay0 && y.canLay0 && Nat.ble x.depth 64 then some (PyData.eqv x y) else none
    | none => none
  | none => none
/-- Python's == -/
noncomputable def eqD (a b : D) : Option Bool := match a with
  | .str x => match b with
    | .str y => some (x == y)
    | _ => eqT a b
  | _ => eqT a b
noncomputable def inD (x : D) (c : D) : Option Bool := match c with
  | .tup l => match toPy x with
    | some a => match toPys l with
      | some ys => if a.canLay0 && PyData.canLayAll0 ys && Nat.ble a.depth 64 then some (ys.any fun y => PyData.eqv y a) else none
      | none => none
    | none => none
  | .dct es => match x with
    | .str k => some (es.lookup k).isSome
    | _ => none
  | _ => none
noncomputable def isD (a b : D) : Option Bool := match b with
  | .none => match a with
    | .none => some true
    | .top _ => none
    | _ => some false
  | .bool y => match a with
    | .bool x => some (x == y)
    | .top _ => none
    | _ => some false
  | _ => none
noncomputable def ii {α : Type} (f : Int → Int → Option α) (a b : D) : Option α := match a with
  | .int x => match b with
    | .int y => f x y
    | _ => none
  | _ => none
theorem ii_inv {α : Type} {f : Int → Int → Option α} {a b : D} {r : α} {p : Prop} (e : ii f a b = some r) (k : ∀ x y, f x y = some r → a = .int x → b = .int y → p) : p := by
  cases a with
  | int x =>
    cases b with
    | int y => exact k x y e rfl rfl
    | _ => exact nn e
  | _ => exact nn e
noncomputable def leD (a b : D) : Option Bool := match a with
  | .int x => match b with
    | .int y => some (decide (x ≤ y))
    | _ => none
  | .str x => match b with
    | .str y => some (!(decide (y.cps.toList < x.cps.toList)))
    | _ => none
  | _ => none
noncomputable def cmpD (op : CmpOp) (a b : D) : Option Bool := match op with
  | .Eq => eqD a b
  | .NotEq => (eqD a b).map fun x => !x
  | .In => inD a b
  | .NotIn => (inD a b).map fun x => !x
  | .Is => isD a b
  | .IsNot => (isD a b).map fun x => !x
  | .Lt => ii (fun x y => some (decide (x < y))) a b
  | .LtE => leD a b
  | .Gt => ii (fun x y => some (decide (x > y))) a b
  | .GtE => ii (fun x y => some (decide (x ≥ y))) a b
noncomputable def addD (a b : D) : Option D := match a with
  | .int x => match b with
    | .int y => some (.int (x + y))
    | _ => none
  | .str x => match b with
    | .str y => if x.length + y.length ≤ sizeLine then some (.str (x ++ y)) else none
    | _ => none
  | .lst x => match b with
    | .lst y => if x.length + y.length ≤ sizeLine then some (.lst (x ++ y)) else none
    | _ => none
  | .tup x => match b with
    | .tup y => if x.length + y.length ≤ sizeLine then some (.tup (x ++ y)) else none
    | _ => none
  | _ => none
noncomputable def binD (op : Operator) (a b : D) : Option D := match op with
  | .Add => addD a b
  | .Sub => ii (fun x y => some (.int (x - y))) a b
  | .Mod => ii (fun x y => if y = 0 then none else some (.int (x.fmod y))) a b
  | .FloorDiv => ii (fun x y => if y = 0 then none else if y.natAbs < 1073741824 then some (.int (x.fdiv y)) else none) a b
  | .BitAnd => ii (fun x y => some (.int (Builtin.bitAnd x y))) a b
  | .Pow => ii (fun x y => if x = 2 ∧ y = 63 then some (.int (2 ^ 63)) else none) a b
  | _ => none

theorem c_gt (a b : Nat) : cmpD .Gt (.int a) (.int b) = some (decide (a > b)) := congrArg some (decide_eq_decide.mpr Int.ofNat_lt)
theorem c_lt (a b : Nat) : cmpD .Lt (.int a) (.int b) = some (decide (a < b)) := congrArg some (decide_eq_decide.mpr Int.ofNat_lt)
theorem c_ge (a b : Nat) : cmpD .GtE (.int a) (.int b) = some (decide (a ≥ b)) := congrArg some (decide_eq_decide.mpr Int.ofNat_le)
theorem c_le (a b : Nat) : cmpD .LtE (.int a) (.int b) = some (decide (a ≤ b)) := congrArg some (decide_eq_decide.mpr Int.ofNat_le)
section
variable {prog : Program} {w : World} {mg : Str → Option Value} {P : Addr → Prop} {A : Around} {E : Value → Shared → Prop} {s : Shared} {u v : Value} {a b : D}

theorem rel_ii {α : Type} {f : Int → Int → Option α} {r : α} {M : Value → Value → Prop} (e : ii f a b = some r) (ra : RelV prog w mg P s.heap u a) (rb : RelV prog w mg P s.heap v b) (k : ∀ x y s t, f x y = some r → M (.int x s) (.int y t)) : M u v := by
  apply ii_inv e; clear e; intro x y e ha hb
  subst ha hb
  apply RelV.eInt ra; clear ra; intro _
  apply RelV.eInt rb; clear rb; intro _
  exact k x y _ _ e
theorem eqT_inv {r : Bool} {G : Prop} (e : eqT a b = some r) (k : ∀ x y, toPy a = some x → toPy b = some y → x.canLay0 = true → y.canLay0 = true → x.depth ≤ 64 → PyData.eqv x y = r → G) : G := by
  apply iPy e; clear e; intro x hx e
  apply iPy e; clear e; intro y hy e
  apply iB e; clear e; intro hc e
  have hc := Bool.and_eq_true_iff.mp hc
  have h1 := Bool.and_eq_true_iff.mp hc.1
  exact k x y hx hy h1.1 h1.2 (Nat.le_of_ble_eq_true hc.2) (Option.some.inj e)
theorem eqD_cases {r : Bool} {G : Prop} (e : eqD a b = some r) (k1 : ∀ x y, a = .str x → b = .str y → (x == y) = r → G) (k2 : ∀ x y, toPy a = some x → toPy b = some y → x.canLay0 = true → y.canLay0 = true → x.depth ≤ 64 → PyData.eqv x y = r → G) : G := by
  cases a with
  | str x =>
    cases b with
    | str y => exact k1 x y rfl rfl (Option.some.inj e)
    | none => exact eqT_inv (a := .str x) (b := .none) e k2
    | bool c => exact eqT_inv (a := .str x) (b := (.bool c)) e k2
    | int c => exact eqT_inv (a := .str x) (b := (.int c)) e k2
    | tup c => exact eqT_inv (a := .str x) (b := (.tup c)) e k2
    | lst c => exact eqT_inv (a := .str x) (b := (.lst c)) e k2
    | rng c => exact eqT_inv (a := .str x) (b := (.rng c)) e k2
    | inst c d => exact eqT_inv (a := .str x) (b := (.inst c d)) e k2
    | dct c => exact eqT_inv (a := .str x) (b := (.dct c)) e k2
    | top c => exact eqT_inv (a := .str x) (b := (.top c)) e k2
  | none => exact eqT_inv (a := .none) (b := b) e k2
  | bool c => exact eqT_inv (a := (.bool c)) (b := b) e k2
  | int c => exact eqT_inv (a := (.int c)) (b := b) e k2
  | tup c => exact eqT_inv (a := (.tup c)) (b := b) e k2
  | lst c => exact eqT_inv (a := (.lst c)) (b := b) e k2
  | rng c => exact eqT_inv (a := (.rng c)) (b := b) e k2
  | inst c d => exact eqT_inv (a := (.inst c d)) (b := b) e k2
  | dct c => exact eqT_inv (a := (.dct c)) (b := b) e k2
  | top c => exact eqT_inv (a := (.top c)) (b := b) e k2

theorem units_le {u m k c : Nat} (h : u + k < c) (h2 : m ≤ k) : u + m < c := Nat.lt_of_le_of_lt (Nat.add_le_add_left h2 u) h
theorem units_le1 {u m c : Nat} (h : u + 66 < c) (h2 : m ≤ 64) : u + 1 + m < c := by omega
theorem s_eq {r : Bool} {Q : Value → Shared → Prop} (e : eqD a b = some r) (ra : RelV prog w mg P s.heap u a) (rb : RelV prog w mg P s.heap v b) (hu : A.units + 64 < cLine) (h : Q (.bool r) s) :
    wpAny (model prog w) A (compareOp .Eq u v) Q E s := by
  apply eqD_cases e <;> clear e
  · intro x y ha hb e; subst ha hb e; (apply RelV.eStr ra; clear ra; intro _); (apply RelV.eStr rb; clear rb; intro _)
    exact PySem.P.eq_str (by rw [SeqAt.str_beq]; exact h)
  · intro x y h1 h2 h3 h4 h5 e; subst e
    exact (ra.reads h1).elim fun as r1 => (rb.reads h2).elim fun bs r2 => SeqAt.compareEq_reads r1 r2 h3 h4 (units_le hu (Nat.le_trans (Nat.min_le_left ..) h5)) h
theorem s_ne {r : Bool} {Q : Value → Shared → Prop} (e : eqD a b = some r) (ra : RelV prog w mg P s.heap u a) (rb : RelV prog w mg P s.heap v b) (hu : A.units + 64 < cLine) (h : Q (.bool (!r)) s) :
    wpAny (model prog w) A (compareOp .NotEq u v) Q E s := by
  apply eqD_cases e <;> clear e
  · intro x y ha hb e; subst ha hb e; (apply RelV.eStr ra; clear ra; intro _); (apply RelV.eStr rb; clear rb; intro _)
    exact PySem.P.ne_str (by rw [show (x.cps.toList != y.cps.toList) = !(x.cps.toList == y.cps.toList) from rfl, SeqAt.str_beq]; exact h)
  · intro x y h1 h2 h3 h4 h5 e; subst e
    exact (ra.reads h1).elim fun as r1 => (rb.reads h2).elim fun bs r2 => SeqAt.compareNe_reads r1 r2 h3 h4 (units_le hu (Nat.le_trans (Nat.min_le_left ..) h5)) h
theorem inD_tup {l : List D} {r : Bool} {G : Prop} (e : inD a (.tup l) = some r) (k : ∀ x ys, toPy a = some x → toPys l = some ys → x.canLay0 = true → PyData.canLayAll0 ys = true → x.depth ≤ 64 → (ys.any fun y => PyData.eqv y x) = r → G) : G := by
  apply iPy e; clear e; intro x hx e
  apply iPs e; clear e; intro y hy e
  apply iB e; clear e; intro hc e
  have hc := Bool.and_eq_true_iff.mp hc
  have h1 := Bool.and_eq_true_iff.mp hc.1
  exact k x y hx hy h1.1 h1.2 (Nat.le_of_ble_eq_true hc.2) (Option.some.inj e)
theorem RelV.tup_reads {l : List D} {ys : List PyData} (rb : RelV prog w mg P s.heap v (.tup l)) (e : toPys l = some ys) : ∃ as, Reads s.heap v (.tuple ys) as := rb.reads (congrArg (Option.map PyData.tuple) e)
theorem isSome_valueAt {kvs : List (Str × Value)} {es : List (Str × D)} (r : RelE prog w mg P s.heap kvs es) (k : Str) : (valueAt kvs k).isSome = (es.lookup k).isSome := by
  cases q : es.lookup k with
  | none => rw [r.get_none q]; rfl
  | some d => obtain ⟨v, hv, _⟩ := r.get q; rw [hv]; rfl
theorem s_in {r : Bool} {Q : Value → Shared → Prop} (e : inD a b = some r) (ra : RelV prog w mg P s.heap u a) (rb : RelV prog w mg P s.heap v b) (hu : A.units + 66 < cLine) (h : ∀ tk, Q (.bool r) { s with toks := tk }) :
    wpAny (model prog w) A (compareOp .In u v) Q E s := by
  cases b with
  | tup l =>
    apply inD_tup e; clear e; intro x ys h1 h2 h3 h4 h5 e; subst e
    exact (ra.reads h1).elim fun as r1 => (rb.tup_reads h2).elim fun bs r2 => SeqAt.in_tuple_reads r2 r1 h4 h3 (units_le1 hu (Nat.le_trans (Nat.min_le_right ..) h5)) (h s.toks)
  | dct es =>
    cases a with
    | str k =>
      apply RelV.eStr ra; clear ra; intro t
      apply RelV.eDct rb; clear rb; intro _ _ hp hs hd he
      have e := Option.some.inj e; subst e
      refine wpAny_in_of (knd := PySem.strKind prog w) (k := k) (by simp [PySem.strKind, Value.isStrOf]) hs hd.mapOf ?_
      rw [isSome_valueAt he k]
      exact h _
    | _ => exact nn e
  | _ => exact nn e
end
end Mine
end

section
open PySem PySem.W PyProof.Rows PySem.Calls
set_option maxRecDepth 100000
namespace Mine
section
variable {prog : Program} {w : World} {mg : Str → Option Value} {P : Addr → Prop} {A : Around} {E : Value → Shared → Prop} {s : Shared} {u v : Value} {a b : D}

theorem s_notIn {r : Bool} {Q : Value → Shared → Prop} (e : inD a b = some r) (ra : RelV prog w mg P s.heap u a) (rb : RelV prog w mg P s.heap v b) (hu : A.units + 66 < cLine) (h : ∀ tk, Q (.bool (!r)) { s with toks := tk }) :
    wpAny (model prog w) A (compareOp .NotIn u v) Q E s := by
  cases b with
  | tup l =>
    apply inD_tup e; clear e; intro x ys h1 h2 h3 h4 h5 e; subst e
    exact (ra.reads h1).elim fun as r1 => (rb.tup_reads h2).elim fun bs r2 => SeqAt.notIn_tuple_reads r2 r1 h4 h3 (units_le1 hu (Nat.le_trans (Nat.min_le_right ..) h5)) (h s.toks)
  | dct es =>
    cases a with
    | str k =>
      apply RelV.eStr ra; clear ra; intro t
      apply RelV.eDct rb; clear rb; intro _ _ hp hs hd he
      have e := Option.some.inj e; subst e
      refine wpAny_notIn_of (knd := PySem.strKind prog w) (k := k) (by simp [PySem.strKind, Value.isStrOf]) hs hd.mapOf ?_
      rw [isSome_valueAt he k]
      exact h _
    | _ => exact nn e
  | _ => exact nn e

theorem isD_same {r : Bool} (e : isD a b = some r) (ra : RelV prog w mg P s.heap u a) (rb : RelV prog w mg P s.heap v b) : PySem.plainIs u v = true ∧ (u == v) = r := by
  cases b with
  | none =>
    (apply RelV.eNone rb; clear rb)
    cases ra with
    | none => cases e; exact ⟨rfl, beq_self_eq_true _⟩
    | top h => exact nn e
    | _ => cases e; exact ⟨rfl, beq_eq_false_iff_ne.mpr (fun q => nomatch q)⟩
  | bool y =>
    (apply RelV.eBool rb; clear rb)
    cases ra with
    | bool x =>
      have e := Option.some.inj e; subst e
      refine ⟨rfl, ?_⟩
      cases x <;> cases y <;> first | exact beq_self_eq_true _ | exact beq_eq_false_iff_ne.mpr (fun q => nomatch q)
    | top h => exact nn e
    | _ => cases e; exact ⟨rfl, beq_eq_false_iff_ne.mpr (fun q => nomatch q)⟩
  | _ => exact nn e
theorem s_is {r : Bool} {Q : Value → Shared → Prop} (e : isD a b = some r) (ra : RelV prog w mg P s.heap u a) (rb : RelV prog w mg P s.heap v b) (h : Q (.bool r) s) :
    wpAny (model prog w) A (compareOp .Is u v) Q E s := by
  obtain ⟨h1, h2⟩ := isD_same e ra rb
  exact wpAny_is_plain h1 (h2 ▸ h)
theorem s_isNot {r : Bool} {Q : Value → Shared → Prop} (e : isD a b = some r) (ra : RelV prog w mg P s.heap u a) (rb : RelV prog w mg P s.heap v b) (h : Q (.bool (!r)) s) :
    wpAny (model prog w) A (compareOp .IsNot u v) Q E s := by
  obtain ⟨h1, h2⟩ := isD_same e ra rb
  exact wpAny_isNot_plain h1 (h2 ▸ h)

theorem s_cmp {op : CmpOp} {r : Bool} {Q : Value → Shared → Prop} (e : cmpD op a b = some r) (ra : RelV prog w mg P s.heap u a) (rb : RelV prog w mg P s.heap v b) (hu : A.units + 66 < cLine) (h : ∀ tk, Q (.bool r) { s with toks := tk }) :
    wpAny (model prog w) A (compareOp op u v) Q E s := by
  cases op with
  | Eq => exact s_eq e ra rb (by omega) (h s.toks)
  | NotEq =>
    simp only [cmpD, Option.map_eq_some_iff] at e
    refine hide fun Gg kg => ?_
    obtain ⟨x, e, rfl⟩ := e
    refine kg ?_; clear kg Gg
    exact s_ne e ra rb (by omega) (h s.toks)
  | In => exact s_in e ra rb hu h
  | NotIn =>
    simp only [cmpD, Option.map_eq_some_iff] at e
    refine hide fun Gg kg => ?_
    obtain ⟨x, e, rfl⟩ := e
    refine kg ?_; clear kg Gg
    exact s_notIn e ra rb hu h
  | Is => exact s_is e ra rb (h s.toks)
  | IsNot =>
    simp only [cmpD, Option.map_eq_some_iff] at e
    refine hide fun Gg kg => ?_
    obtain ⟨x, e, rfl⟩ := e
    refine kg ?_; clear kg Gg
    exact s_isNot e ra rb (h s.toks)
  | Lt => apply rel_ii e ra rb; clear e ra rb; intro x y _ _ e; exact PySem.P.lt_int (Option.some.inj e ▸ h s.toks)
  | LtE =>
    cases a with
    | int x =>
      cases b with
      | int y =>
        apply RelV.eInt ra; clear ra; intro _
        apply RelV.eInt rb; clear rb; intro _
        exact PySem.P.le_int (Option.some.inj e ▸ h s.toks)
      | _ => exact nn e
    | str x =>
      cases b with
      | str y =>
        apply RelV.eStr ra; clear ra; intro _
        apply RelV.eStr rb; clear rb; intro _
        exact PySem.P.le_str (Option.some.inj e ▸ h s.toks)
      | _ => exact nn e
    | _ => exact nn e
  | Gt => apply rel_ii e ra rb; clear e ra rb; intro x y _ _ e; exact PySem.P.gt_int (Option.some.inj e ▸ h s.toks)
  | GtE => apply rel_ii e ra rb; clear e ra rb; intro x y _ _ e; exact PySem.P.ge_int (Option.some.inj e ▸ h s.toks)

theorem tup_meet {ta tb : Addr} {S : PySem.Spec} {Q : Value → Shared → Prop} (ha : s.TypeIs (.ref ta) "tuple") (hb : s.TypeIs (.ref tb) "tuple") (g : Meets (Builtin.«tuple.__add__» ⟨[.ref ta, .ref tb], []⟩) S) (h : S A (wants Q E) s) :
    wpAny (model prog w) A (binaryOp .Add (.ref ta) (.ref tb)) Q E s :=
  concat_meets ha hb noFill_tuple_add seq_tuple_add PySem.F.slot_tuple_add PySem.F.entry_tuple_add (PySem.F.args_tuple_add_2 _ _) g h
theorem add_tups {ta tb : Addr} {vs ws : List Value} {ds es : List D} {Q : Value → Shared → Prop} (F : FreshIn P s.heap) (pa : P ta) (pb : P tb) (ht : IsTup s.heap ta vs.toArray) (hb : IsTup s.heap tb ws.toArray) (nda : NoDict s.heap ta) (ndb : NoDict s.heap tb)
    (r1 : RelL prog w mg P s.heap vs ds) (r2 : RelL prog w mg P s.heap ws es) (hsz : vs.length + ws.length ≤ sizeLine)
    (h : ∀ v s', Post prog w mg P s (.tup (ds ++ es)) v s' → Q v s') : wpAny (model prog w) A (binaryOp .Add (.ref ta) (.ref tb)) Q E s := by
  refine hide fun Gg kg => ?_
  obtain ⟨⟨_, d1, _, l1⟩, g1, k1, n1, q1⟩ := id ht
  obtain ⟨⟨_, d2, _, l2⟩, g2, k2, n2, q2⟩ := id hb
  refine kg ?_; clear kg Gg
  cases k1; cases k2; cases q1; cases q2
  refine Classical.byCases (fun z : vs.toArray.isEmpty = true => ?_) fun z => Classical.byCases (fun z' : ws.toArray.isEmpty = true => ?_) fun z' => ?_
  · refine tup_meet ⟨_, g1, rfl⟩ ⟨_, g2, rfl⟩ (tuple_addW0 _ _ _ _ _ _ _ _ _ _ z) ⟨g1, g2, h _ _ ⟨kRfl s, ?_⟩⟩
    cases (show vs = [] by simpa using z)
    cases r1
    exact .tup pb hb r2 ndb
  · refine tup_meet ⟨_, g1, rfl⟩ ⟨_, g2, rfl⟩ (tuple_addW1 _ _ _ _ _ _ _ _ _ _ z z') ⟨g1, g2, h _ _ ⟨kRfl s, ?_⟩⟩
    cases (show ws = [] by simpa using z')
    cases r2
    rw [List.append_nil]
    exact .tup pa ht r1 nda
  · refine tup_meet ⟨_, g1, rfl⟩ ⟨_, g2, rfl⟩ (tuple_addW2 _ _ _ _ _ _ _ _ _ _ z z' hsz) ⟨g1, g2, ?_⟩
    rw [show vs.toArray ++ ws.toArray = (vs ++ ws).toArray from List.append_toArray ..]
    exact h _ _ (newTup F (r1.append r2) _)

theorem add_lsts {ta tb : Addr} {vs ws : List Value} {ds es : List D} {Q : Value → Shared → Prop} (F : FreshIn P s.heap) (ht : s.heap.IsList ta vs.toArray) (hb : s.heap.IsList tb ws.toArray)
    (r1 : RelL prog w mg P s.heap vs ds) (r2 : RelL prog w mg P s.heap ws es) (hsz : vs.length + ws.length ≤ sizeLine)
    (h : ∀ v s', Post prog w mg P s (.lst (ds ++ es)) v s' → Q v s') : wpAny (model prog w) A (binaryOp .Add (.ref ta) (.ref tb)) Q E s := by
  refine hide fun Gg kg => ?_
  obtain ⟨⟨_, d1, _, l1⟩, g1, k1, n1, q1⟩ := ht
  obtain ⟨⟨_, d2, _, l2⟩, g2, k2, n2, q2⟩ := hb
  refine kg ?_; clear kg Gg
  cases k1; cases k2; cases q1; cases q2
  refine concat_meets ⟨_, g1, rfl⟩ ⟨_, g2, rfl⟩ noFill_list_add seq_list_add PySem.F.slot_list_add PySem.F.entry_list_add (PySem.F.args_list_add_2 _ _) (list_addW _ _ _ _ _ _ _ _ _ _ hsz) ⟨g1, g2, ?_⟩
  rw [show vs.toArray ++ ws.toArray = (vs ++ ws).toArray from List.append_toArray ..]
  exact h _ _ (newLst F (r1.append r2) _)
theorem s_bin {op : Operator} {d : D} {Q : Value → Shared → Prop} (e : binD op a b = some d) (F : FreshIn P s.heap) (ra : RelV prog w mg P s.heap u a) (rb : RelV prog w mg P s.heap v b)
    (h : ∀ v s', Post prog w mg P s d v s' → Q v s') : wpAny (model prog w) A (binaryOp op u v) Q E s := by
  cases op with
  | Add =>
    cases a with
    | int x =>
      cases b with
      | int y =>
        apply RelV.eInt ra; clear ra; intro _
        apply RelV.eInt rb; clear rb; intro _
        exact PySem.P.add_int (h _ _ ⟨kTk s _, Option.some.inj e ▸ .int _ _⟩)
      | _ => exact nn e
    | str x =>
      cases b with
      | str y =>
        apply RelV.eStr ra; clear ra; intro _
        apply RelV.eStr rb; clear rb; intro _
        apply iB e; clear e; intro hl e
        exact PySem.P.add_str (PySem.SB.post_add hl fun _ _ => h _ _ ⟨kTk s _, Option.some.inj e ▸ .str _ _⟩)
      | _ => exact nn e
    | lst x =>
      cases b with
      | lst y =>
        apply RelV.eLst ra; clear ra; intro _ _ pa ha r1
        apply RelV.eLst rb; clear rb; intro _ _ pb hb r2
        apply iB e; clear e; intro hl e
        exact add_lsts F ha hb r1 r2 (by rw [r1.length, r2.length]; exact hl) (Option.some.inj e ▸ h)
      | _ => exact nn e
    | tup x =>
      cases b with
      | tup y =>
        apply RelV.eTup ra; clear ra; intro _ _ pa ha r1 nda
        apply RelV.eTup rb; clear rb; intro _ _ pb hb r2 ndb
        apply iB e; clear e; intro hl e
        exact add_tups F pa pb ha hb nda ndb r1 r2 (by rw [r1.length, r2.length]; exact hl) (Option.some.inj e ▸ h)
      | _ => exact nn e
    | _ => exact nn e
  | Sub => apply rel_ii e ra rb; clear e ra rb; intro x y _ _ e; exact PySem.P.sub_int (h _ _ ⟨kTk s _, Option.some.inj e ▸ .int _ _⟩)
  | Mod =>
    apply rel_ii e ra rb; clear e ra rb; intro x y _ _ e
    by_cases hy : y = 0
    · exact nn ((if_pos hy).symm.trans e)
    · exact mod_int' hy (h _ _ ⟨kTk s _, Option.some.inj ((if_neg hy).symm.trans e) ▸ .int _ _⟩)
  | FloorDiv =>
    apply rel_ii e ra rb; clear e ra rb; intro x y _ _ e
    by_cases hy : y = 0
    · exact nn ((if_pos hy).symm.trans e)
    · apply iB ((if_neg hy).symm.trans e); clear e; intro hs e
      exact floordiv_int hy (h _ _ ⟨kTk s _, Option.some.inj e ▸ .int _ _⟩) (.inl (PyProof.noPylong_small hs))
  | BitAnd => apply rel_ii e ra rb; clear e ra rb; intro x y _ _ e; exact PyProof.Rows.and_int (h _ _ ⟨kTk s _, Option.some.inj e ▸ .int _ _⟩)
  | Pow =>
    apply rel_ii e ra rb; clear e ra rb; intro x y _ _ e
    apply iB e; clear e; intro hl e
    obtain ⟨rfl, rfl⟩ := hl
    exact PySem.AutoIntOps.pow_4 (by decide) (by decide) (by decide) (by decide) (by decide +kernel) (h _ _ ⟨kTk s _, Option.some.inj e ▸ .int _ _⟩)
  | _ => exact nn e
/-- s += t of two texts -/
theorem s_iadd {x y : Str} {Q : Value → Shared → Prop} (hl : x.length + y.length ≤ sizeLine) (ra : RelV prog w mg P s.heap u (.str x)) (rb : RelV prog w mg P s.heap v (.str y))
    (h : ∀ v s', Post prog w mg P s (.str (x ++ y)) v s' → Q v s') : wpAny (model prog w) A (inplaceOp .Add u v) Q E s := by
  (apply RelV.eStr ra; clear ra; intro _); (apply RelV.eStr rb; clear rb; intro _)
  exact PySem.P.iadd_str (PySem.SB.post_add hl fun _ _ => h _ _ ⟨kTk s _, .str _ _⟩)
theorem s_neg {i : Int} {Q : Value → Shared → Prop} (ra : RelV prog w mg P s.heap u (.int i)) (h : ∀ v s', Post prog w mg P s (.int (-i)) v s' → Q v s') : wpAny (model prog w) A (unaryOp .USub u) Q E s := by
  (apply RelV.eInt ra; clear ra; intro _)
  exact PySem.P.neg_int (h _ _ ⟨kTk s _, .int _ _⟩)
end
end Mine
end

section
open PySem PySem.W PyProof.Rows PySem.Calls
set_option maxRecDepth 100000
set_option genSizeOf false
namespace Mine

/-- a written dict's keys -/
inductive MK where
  | none
  | int (i : Int)
  | str (s : Str)
  deriving DecidableEq
noncomputable def mkOf : D → Option MK
  | .none => some .none
  | .int i => some (.int i)
  | .str s => some (.str s)
  | _ => Option.none
noncomputable def mkStr : MK → Option Str
  | .str s => some s
  | _ => Option.none
noncomputable def strsOf : List MK → Option (List Str)
  | [] => some []
  | k :: r => match mkStr k with
    | some x => (strsOf r).map (x :: ·)
    | Option.none => Option.none
noncomputable def getM : List MK → List D → MK → Option D
  | [], _, _ => Option.none
  | k :: ks, ds, x => match ds with
    | [] => Option.none
    | d :: ds => if k = x then some d else getM ks ds x
noncomputable def nodupB {α : Type} [DecidableEq α] : List α → Bool
  | [] => true
  | a :: r => !(r.any fun b => decide (a = b)) && nodupB r

/-- the law's expressions, positions dropped, names as numbers -/
inductive PE where
  | none
  | bool (b : Bool)
  | int (i : Int)
  | str (s : Str)
  | var (n : Nat)
  | glob (n : Nat)
  | tup (l : List PE)
  | lst (l : List PE)
  | item (a i : PE)
  | upto (a : PE) (k : Int)
  | attr (a : PE) (n : Nat)
  | call (f : Nat) (l : List PE)
  | callv (f : PE) (l : List PE)
  | isinst (a : PE) (c : Nat)
  | meth (a : PE) (m : Nat) (l : List PE)
  | cmp (op : CmpOp) (a b : PE)
  | not (a : PE)
  | neg (a : PE)
  | and (l : List PE)
  | or (l : List PE)
  | bin (op : Operator) (a b : PE)
  | ite (t a b : PE)
  | comp (elt : PE) (x : Nat) (iter : PE) (ifs : List PE)
  | cmp2 (o1 o2 : CmpOp) (a b c : PE)
  | cut (a : PE) (lo hi : Nat)
  | dict (ks : List MK) (vs : List PE)
  | mget (ks : List MK) (vs : List PE) (k d : PE)

noncomputable def put (ρ : List (Nat × D)) (x : Nat) (d : D) : List (Nat × D) := match ρ with
  | [] => [(x, d)]
  | p :: r => match Nat.beq p.1 x with
    | true => (x, d) :: r
    | false => p :: put r x d
noncomputable def look (ρ : List (Nat × D)) (x : Nat) : Option D := match ρ with
  | [] => none
  | p :: r => match Nat.beq p.1 x with
    | true => some p.2
    | false => look r x

noncomputable def fits63 (k : Int) : Bool := decide (-(2 ^ 63 : Int) ≤ k) && decide (k < 2 ^ 63)
noncomputable def itemD (x i : D) : Option D := match x with
  | .tup l => match i with
    | .int k => if fits63 k then (seqIndex? k l.length).bind fun j => l[j]? else none
    | _ => none
  | .lst l => match i with
    | .int k => if fits63 k then (seqIndex? k l.length).bind fun j => l[j]? else none
    | _ => none
  | .str s => match i with
    | .int k => if fits63 k then (seqIndex? k s.length).bind fun j => (s.cps[j]?).map fun c => .str ⟨#[c]⟩ else none
    | _ => none
  | .dct es => match i with
    | .str k => es.lookup k
    | _ => none
  | _ => none
noncomputable def uptoD (x : D) (k : Int) : Option D := match x with
  | .str s => if Nat.ble (StrLaws.sliceText s none (some k)).length 1000 then some (.str (StrLaws.sliceText s none (some k))) else none
  | .lst l => match k with
    | .ofNat n => if Nat.ble l.length 10000000 then some (.lst (l.take n)) else none
    | _ => none
  | _ => none
noncomputable def notTop : D → Bool
  | .top _ => false
  | _ => true
noncomputable def attrD (fo : Nat → Nat → Bool) (x : D) (n : Nat) : Option D := match x with
  | .inst c fs => if fo c n then (match fs.lookup n with
    | some d => if notTop d then some d else none
    | none => none) else none
  | _ => none
noncomputable def itemsD (x : D) : Option (List D) := match x with
  | .tup l => some l
  | .lst l => some l
  | .rng n => if Nat.ble n 1000 then some ((List.range n).map fun (i : Nat) => .int i) else none
  | .str s => some (s.cps.toList.map fun c => .str ⟨#[c]⟩)
  | _ => none
noncomputable def keepM (t : D → Option Bool) (f : D → Option D) : List D → Option (List D)
  | [] => some []
  | d :: r => match t d with
    | some true => match f d with
      | some x => (keepM t f r).map (x :: ·)
      | none => none
    | some false => keepM t f r
    | none => none

section
variable (Γ : Nat → List D → Option D) (Γm : Nat → D → List D → Option D) (isi : D → Nat → Option Bool) (kn : Nat → Bool) (fo : Nat → Nat → Bool)
mutual
noncomputable def evE : PE → List (Nat × D) → Option D
  | .none, _ => some .none
  | .bool b, _ => some (.bool b)
  | .int i, _ => some (.int i)
  | .str s, _ => some (.str s)
  | .var n, ρ => look ρ n
  | .glob n, _ => if kn n then some (.top n) else none
  | .tup l, ρ => match evEs l ρ with
    | some ds => if Nat.ble ds.length 100 then some (.tup ds) else none
    | none => none
  | .lst l, ρ => match evEs l ρ with
    | some ds => if Nat.ble ds.length 100 then some (.lst ds) else none
    | none => none
  | .item a i, ρ => match evE a ρ with
    | some x => match evE i ρ with
      | some y => itemD x y
      | none => none
    | none => none
  | .upto a k, ρ => match evE a ρ with
    | some x => uptoD x k
    | none => none
  | .attr a n, ρ => match evE a ρ with
    | some x => attrD fo x n
    | none => none
  | .call f l, ρ => match evEs l ρ with
    | some ds => Γ f ds
    | none => none
  | .callv f l, ρ => match evE f ρ with
    | some (.top g) => match evEs l ρ with
      | some ds => Γ g ds
      | none => none
    | _ => none
  | .isinst a c, ρ => match evE a ρ with
    | some x => (isi x c).map .bool
    | none => none
  | .meth a m l, ρ => match evE a ρ with
    | some x => match evEs l ρ with
      | some ds => Γm m x ds
      | none => none
    | none => none
  | .cmp op a b, ρ => match evE a ρ with
    | some x => match evE b ρ with
      | some y => (cmpD op x y).map .bool
      | none => none
    | none => none
  | .not a, ρ => match evE a ρ with
    | some (.bool b) => some (.bool (!b))
    | _ => none
  | .neg a, ρ => match evE a ρ with
    | some (.int i) => some (.int (-i))
    | _ => none
  | .and l, ρ => (evAnd l ρ).map .bool
  | .or l, ρ => (evOr l ρ).map .bool
  | .bin op a b, ρ => match evE a ρ with
    | some x => match evE b ρ with
      | some y => binD op x y
      | none => none
    | none => none
  | .ite t a b, ρ => match evE t ρ with
    | some (.bool true) => evE a ρ
    | some (.bool false) => evE b ρ
    | _ => none
  | .comp elt x iter ifs, ρ => match evE iter ρ with
    | some src => match itemsD src with
      | some ds => if Nat.ble ds.length 1000 then (keepM (fun d => evTs ifs (put ρ x d)) (fun d => evE elt (put ρ x d)) ds).map .lst else none
      | none => none
    | none => none
  | .cmp2 o1 o2 a b c, ρ => match evE a ρ with
    | some x => match evE b ρ with
      | some y => match cmpD o1 x y with
        | some true => match evE c ρ with
          | some z => (cmpD o2 y z).map .bool
          | none => none
        | some false => some (.bool false)
        | none => none
      | none => none
    | none => none
  | .cut a lo hi, ρ => match evE a ρ with
    | some (.lst l) => if Nat.ble l.length 10000000 then some (.lst ((l.drop lo).take (hi - lo))) else none
    | _ => none
  | .dict ks vs, ρ => match evEs vs ρ with
    | some ds => match strsOf ks with
      | some xs => some (.dct (xs.zip ds))
      | none => none
    | none => none
  | .mget ks vs k d, ρ => match evEs vs ρ with
    | some ds => match evE k ρ with
      | some kd => match evE d ρ with
        | some dd => match mkOf kd with
          | some m => match getM ks ds m with
            | some r => some r
            | none => some dd
          | none => none
        | none => none
      | none => none
    | none => none
noncomputable def evEs : List PE → List (Nat × D) → Option (List D)
  | [], _ => some []
  | e :: r, ρ => match evE e ρ with
    | some d => match evEs r ρ with
      | some ds => some (d :: ds)
      | none => none
    | none => none
noncomputable def evAnd : List PE → List (Nat × D) → Option Bool
  | [], _ => none
  | [a], ρ => match evE a ρ with
    | some (.bool b) => some b
    | _ => none
  | a :: r, ρ => match evE a ρ with
    | some (.bool true) => evAnd r ρ
    | some (.bool false) => some false
    | _ => none
noncomputable def evOr : List PE → List (Nat × D) → Option Bool
  | [], _ => none
  | [a], ρ => match evE a ρ with
    | some (.bool b) => some b
    | _ => none
  | a :: r, ρ => match evE a ρ with
    | some (.bool true) => some true
    | some (.bool false) => evOr r ρ
    | _ => none
/-- a comprehension's tests -/
noncomputable def evTs : List PE → List (Nat × D) → Option Bool
  | [], _ => some true
  | a :: r, ρ => match evE a ρ with
    | some (.bool true) => evTs r ρ
    | some (.bool false) => some false
    | _ => none
end
end

section
variable {α β : Type} {d : β} {G : Prop}
theorem iD {o : Option D} {f : D → Option β} (h : (match o with | some x => f x | none => none) = some d) (k : ∀ x, o = some x → f x = some d → G) : G := by
  cases o with
  | none => exact nn h
  | some x => exact k x rfl h
theorem iL {o : Option (List D)} {f : List D → Option β} (h : (match o with | some x => f x | none => none) = some d) (k : ∀ x, o = some x → f x = some d → G) : G := by
  cases o with
  | none => exact nn h
  | some x => exact k x rfl h
theorem iK {o : Option MK} {f : MK → Option β} (h : (match o with | some x => f x | none => none) = some d) (k : ∀ x, o = some x → f x = some d → G) : G := by
  cases o with
  | none => exact nn h
  | some x => exact k x rfl h
theorem iSs {o : Option (List Str)} {f : List Str → Option β} (h : (match o with | some x => f x | none => none) = some d) (k : ∀ x, o = some x → f x = some d → G) : G := by
  cases o with
  | none => exact nn h
  | some x => exact k x rfl h
theorem iBo {o : Option D} {f : Bool → Option β} (h : (match o with | some (.bool b) => f b | _ => none) = some d) (k : ∀ b, o = some (.bool b) → f b = some d → G) : G := by
  cases o with
  | none => exact nn h
  | some x => cases x <;> first | exact k _ rfl h | exact nn h
theorem iIn {o : Option D} {f : Int → Option β} (h : (match o with | some (.int b) => f b | _ => none) = some d) (k : ∀ b, o = some (.int b) → f b = some d → G) : G := by
  cases o with
  | none => exact nn h
  | some x => cases x <;> first | exact k _ rfl h | exact nn h
theorem iLs {o : Option D} {f : List D → Option β} (h : (match o with | some (.lst b) => f b | _ => none) = some d) (k : ∀ b, o = some (.lst b) → f b = some d → G) : G := by
  cases o with
  | none => exact nn h
  | some x => cases x <;> first | exact k _ rfl h | exact nn h
theorem iTp {o : Option D} {f : Nat → Option β} (h : (match o with | some (.top b) => f b | _ => none) = some d) (k : ∀ b, o = some (.top b) → f b = some d → G) : G := by
  cases o with
  | none => exact nn h
  | some x => cases x <;> first | exact k _ rfl h | exact nn h
theorem iTF {o : Option D} {x y : Option β} (h : (match o with | some (.bool true) => x | some (.bool false) => y | _ => none) = some d) (k1 : o = some (.bool true) → x = some d → G) (k2 : o = some (.bool false) → y = some d → G) : G := by
  cases o with
  | none => exact nn h
  | some z => cases z <;> first | (rename_i b; cases b; exact k2 rfl h; exact k1 rfl h) | exact nn h
theorem iCf {o : Option Bool} {x y : Option β} (h : (match o with | some true => x | some false => y | none => none) = some d) (k1 : o = some true → x = some d → G) (k2 : o = some false → y = some d → G) : G := by
  cases o with
  | none => exact nn h
  | some b => cases b; exact k2 rfl h; exact k1 rfl h
theorem dIn {x : D} {f : Int → Option β} (h : (match x with | .int b => f b | _ => none) = some d) (k : ∀ b, x = .int b → f b = some d → G) : G := by
  cases x with
  | int b => exact k b rfl h
  | _ => exact nn h
theorem dSt {x : D} {f : Str → Option β} (h : (match x with | .str b => f b | _ => none) = some d) (k : ∀ b, x = .str b → f b = some d → G) : G := by
  cases x with
  | str b => exact k b rfl h
  | _ => exact nn h
theorem dLs {x : D} {f : List D → Option β} (h : (match x with | .lst b => f b | _ => none) = some d) (k : ∀ b, x = .lst b → f b = some d → G) : G := by
  cases x with
  | lst b => exact k b rfl h
  | _ => exact nn h
theorem iE {c : Prop} [Decidable c] {a b : Option β} (h : (if c then a else b) = some d) (k1 : c → a = some d → G) (k2 : ¬ c → b = some d → G) : G := by
  by_cases hc : c
  · rw [if_pos hc] at h; exact k1 hc h
  · rw [if_neg hc] at h; exact k2 hc h
theorem iM {o : Option α} {f : α → β} (h : o.map f = some d) (k : ∀ x, o = some x → f x = d → G) : G := by
  cases o with
  | none => exact nn h
  | some x => exact k x rfl (Option.some.inj h)
theorem iN {o : Option α} {f : α → Option β} (h : o.bind f = some d) (k : ∀ x, o = some x → f x = some d → G) : G := by
  cases o with
  | none => exact nn h
  | some x => exact k x rfl h
end
section
variable {α β : Type} {z : Option β}
theorem jD {o : Option D} {f : D → Option β} {a : D} (h : o = some a) (h2 : f a = z) : (match (generalizing := false) o with | some x => f x | none => none) = z := by subst h; exact h2
theorem jL {o : Option (List D)} {f : List D → Option β} {a : List D} (h : o = some a) (h2 : f a = z) : (match (generalizing := false) o with | some x => f x | none => none) = z := by subst h; exact h2
theorem jBo {o : Option D} {f : Bool → Option β} {b : Bool} (h : o = some (.bool b)) (h2 : f b = z) : (match (generalizing := false) o with | some (.bool b) => f b | _ => none) = z := by subst h; exact h2
theorem jT {o : Option D} {x y : Option β} (h : o = some (.bool true)) (h2 : x = z) : (match (generalizing := false) o with | some (.bool true) => x | some (.bool false) => y | _ => none) = z := by subst h; exact h2
theorem jF {o : Option D} {x y : Option β} (h : o = some (.bool false)) (h2 : y = z) : (match (generalizing := false) o with | some (.bool true) => x | some (.bool false) => y | _ => none) = z := by subst h; exact h2
theorem jM {o : Option α} {f : α → β} {a : α} (h : o = some a) : o.map f = some (f a) := by subst h; rfl
theorem jB {c : Prop} [Decidable c] {o : Option β} (h : c) (h2 : o = z) : (if c then o else none) = z := (if_pos h).trans h2
theorem jDn {o : Option D} {f : D → Option β} (h : ∀ x, o = some x → f x = none) : (match (generalizing := false) o with | some x => f x | none => none) = none := by
  cases o with
  | none => rfl
  | some x => exact h x rfl
end
theorem attrD_inv {fo : Nat → Nat → Bool} {x d : D} {n : Nat} {G : Prop} (h : attrD fo x n = some d) (k : ∀ c fs, x = .inst c fs → fo c n = true → fs.lookup n = some d → notTop d = true → G) : G := by
  cases x with
  | inst c fs =>
    apply iB h; clear h; intro h1 h
    apply iD h; clear h; intro d' h2 h
    apply iB h; clear h; intro h3 h
    exact k c fs rfl h1 (h2.trans h) (Option.some.inj h ▸ h3)
  | _ => exact nn h
theorem evEs_length {Γ : Nat → List D → Option D} {Γm : Nat → D → List D → Option D} {isi : D → Nat → Option Bool} {kn : Nat → Bool} {fo : Nat → Nat → Bool} {ρ : List (Nat × D)} : ∀ {ps : List PE} {ds : List D}, evEs Γ Γm isi kn fo ps ρ = some ds → ps.length = ds.length
  | [], ds, e => Option.some.inj e ▸ rfl
  | p :: ps, ds, e => by
    apply iD e; clear e; intro d _ e
    apply iL e; clear e; intro ds' h e
    exact Option.some.inj e ▸ congrArg Nat.succ (evEs_length h)
/-- names -/
noncomputable def nameOk (x : Str) : Bool := !(x == ("__debug__" : Str)) && !(x == ("__classdict__" : Str))
noncomputable def isVar (sc : Scope) (x : Str) : Bool := !(x == (".0" : Str)) && match sc.names.lookup x with
  | some .local => true
  | some .cell => true
  | some .free => true
  | _ => false
noncomputable def nmOk (x : Str) (n : Nat) : Bool := Nat.beq (enc x) n && dec n == x
theorem nmOk.e {x : Str} {n : Nat} (h : nmOk x n = true) : enc x = n := by
  simp only [nmOk, Bool.and_eq_true] at h
  exact Nat.eq_of_beq_eq_true h.1
theorem nmOk.d {x : Str} {n : Nat} (h : nmOk x n = true) : dec n = x := by
  simp only [nmOk, Bool.and_eq_true, beq_iff_eq] at h
  exact h.2
noncomputable def isGlob (sc : Scope) (x : Str) : Bool := match sc.names.lookup x with
  | some .globalImplicit => true
  | _ => false
noncomputable def notCall : Expr → Bool
  | .Call .. => false
  | _ => true
/-- a comprehension's own table, under the table around it -/
noncomputable def compScOk (sc sc' : Scope) (x : Str) : Bool :=
  (sc'.kind == .function) && sc'.names.all (fun y => !(y.2 == .cell)) && (sc'.names.lookup x == some .local) &&
  sc'.names.all (fun y => !(y.2 == .local) || (sc'.names.lookup y.1 == some .local && (y.1 == x || y.1 == (".0" : Str)))) &&
  sc'.names.all (fun y => !(y.2 == .free) || (match sc.names.lookup y.1 with | some .cell => true | _ => false))

/-- a written key -/
inductive KRep : Expr → MK → Prop
  | none {k p} : KRep (.Constant .none k p) .none
  | int {i k p} : KRep (.Constant (.int i) k p) (.int i)
  | str {s k p} : KRep (.Constant (.str s) k p) (.str s)
inductive KReps : List (Option Expr) → List MK → Prop
  | nil : KReps [] []
  | cons {e k es ks} : KRep e k → KReps es ks → KReps (some e :: es) (k :: ks)
mutual
inductive Rep : Scope → Expr → PE → Prop
  | none {sc k p} : Rep sc (.Constant .none k p) .none
  | bool {sc b k p} : Rep sc (.Constant (.bool b) k p) (.bool b)
  | int {sc i k p} : Rep sc (.Constant (.int i) k p) (.int i)
  | str {sc s k p} : Rep sc (.Constant (.str s) k p) (.str s)
  | var {sc x n p} : isVar sc x = true → nmOk x n = true → nameOk x = true → Rep sc (.Name x p) (.var n)
  | glob {sc x n p} : isGlob sc x = true → nmOk x n = true → nameOk x = true → Rep sc (.Name x p) (.glob n)
  | tup {sc l ps k p} : RepL sc l ps → Rep sc (.Tuple l k p) (.tup ps)
  | lst {sc l ps p} : RepL sc l ps → Rep sc (.List l p) (.lst ps)
  | item {sc a i pa pi p} : Rep sc a pa → Rep sc i pi → Rep sc (.Subscript a i p) (.item pa pi)
  | upto {sc x p0 pa i k p q p'} : Rep sc (.Name x p0) pa → Rep sc (.Subscript (.Name x p0) (.Slice none (some (.Constant (.int i) k p)) none q) p') (.upto pa i)
  | attr {sc a pa x n p} : Rep sc a pa → notCall a = true → nmOk x n = true → Rep sc (.Attribute a x p) (.attr pa n)
  | call {sc f n p l ps q} : isGlob sc f = true → nmOk f n = true → nameOk f = true → l.length ≤ 20 → RepL sc l ps → Rep sc (.Call (.Name f p) l [] q) (.call n ps)
  | callv {sc o m ap l' q' pf l ps q} : Rep sc (.Call (.Attribute o m ap) l' [] q') pf → l.length ≤ 20 → RepL sc l ps → Rep sc (.Call (.Call (.Attribute o m ap) l' [] q') l [] q) (.callv pf ps)
  | isinst {sc p a pa c n p' q} : isGlob sc ("isinstance" : Str) = true → isGlob sc c = true → nmOk c n = true → nameOk c = true → Rep sc a pa → Rep sc (.Call (.Name ("isinstance" : Str) p) [a, .Name c p'] [] q) (.isinst pa n)
  | meth {sc o po m n ap l ps q} : Rep sc o po → notCall o = true → nmOk m n = true → (ap.endLine == q.line) = true → l.length ≤ 20 → RepL sc l ps → Rep sc (.Call (.Attribute o m ap) l [] q) (.meth po n ps)
  | cmp {sc a pa op b pb p} : Rep sc a pa → Rep sc b pb → Rep sc (.Compare a [op] [b] p) (.cmp op pa pb)
  | not {sc a pa p} : Rep sc a pa → Rep sc (.UnaryOp .Not a p) (.not pa)
  | neg {sc a pa p} : Rep sc a pa → Rep sc (.UnaryOp .USub a p) (.neg pa)
  | and {sc l ps p} : RepL sc l ps → Rep sc (.BoolOp .And l p) (.and ps)
  | or {sc l ps p} : RepL sc l ps → Rep sc (.BoolOp .Or l p) (.or ps)
  | bin {sc a pa op b pb p} : Rep sc a pa → Rep sc b pb → Rep sc (.BinOp a op b p) (.bin op pa pb)
  | ite {sc t pt a pa b pb p} : Rep sc t pt → Rep sc a pa → Rep sc b pb → Rep sc (.IfExp t a b p) (.ite pt pa pb)
  | comp {sc sc' elt pe x n px iter pi ifs ps p} : Rep sc' elt pe → Rep sc iter pi → RepL sc' ifs ps → nmOk x n = true → compScOk sc sc' x = true → Rep sc (.ListComp elt [⟨.Name x px, iter, ifs, 0⟩] sc' p) (.comp pe n pi ps)
  | cmp2 {sc a pa o1 b pb o2 c pc p} : Rep sc a pa → Rep sc b pb → Rep sc c pc → Rep sc (.Compare a [o1, o2] [b, c] p) (.cmp2 o1 o2 pa pb pc)
  | cutIn {sc x p0 pa j kj pj i k p q p'} : j ≤ i → Rep sc (.Name x p0) pa → Rep sc (.Subscript (.Name x p0) (.Slice (some (.Constant (.int (Int.ofNat j)) kj pj)) (some (.Constant (.int (Int.ofNat i)) k p)) none q) p') (.cut pa j i)
  | dict {sc ks mks vs ps p} : KReps ks mks → nodupB mks = true → ks.length ≤ 15 → ks.length = vs.length → RepL sc vs ps → Rep sc (.Dict ks vs p) (.dict mks ps)
  | mget {sc ks mks vs ps dp ap k pk d pd q} : KReps ks mks → nodupB mks = true → ks.length ≤ 15 → 0 < ks.length → ks.length = vs.length → (ap.endLine == q.line) = true → RepL sc vs ps → Rep sc k pk → Rep sc d pd → Rep sc (.Call (.Attribute (.Dict ks vs dp) ("get" : Str) ap) [k, d] [] q) (.mget mks ps pk pd)
inductive RepL : Scope → List Expr → List PE → Prop
  | nil {sc} : RepL sc [] []
  | cons {sc e pe l ps} : Rep sc e pe → RepL sc l ps → RepL sc (e :: l) (pe :: ps)
end
structure EOk (e : Expr) : Prop where
  folded : ∀ env x, foldedSetIterable e env x = pure x
  marks : ∀ op, behindInMarks op e = false
  star : ∀ l env, starEach (e :: l) env = (false, eval e env) :: starEach l env
  subs : ∀ u v, subscripted e false u v = operate [u, v] (getItem u v)
theorem Rep.ok {sc : Scope} {e : Expr} {pe : PE} (r : Rep sc e pe) : EOk e := by cases r <;> exact ⟨fun _ _ => rfl, fun _ => rfl, fun _ _ => rfl, fun _ _ => rfl⟩
noncomputable def RepInv (sc : Scope) (e : Expr) (pe : PE) : Prop := match pe with
  | .var n => ∃ x p, e = .Name x p ∧ nmOk x n = true ∧ nameOk x = true
  | .attr pa n => ∃ a x p, e = .Attribute a x p ∧ Rep sc a pa ∧ notCall a = true ∧ nmOk x n = true
  | .comp pe n pi ps => ∃ x px elt iter ifs sc' p, e = .ListComp elt [⟨.Name x px, iter, ifs, 0⟩] sc' p ∧ Rep sc' elt pe ∧ Rep sc iter pi ∧ RepL sc' ifs ps ∧ nmOk x n = true ∧ compScOk sc sc' x = true
  | _ => True
theorem Rep.inv {sc : Scope} {e : Expr} {pe : PE} (r : Rep sc e pe) : RepInv sc e pe := by
  cases r with
  | var h1 h2 h3 => exact ⟨_, _, rfl, h2, h3⟩
  | attr h1 h2 h3 => exact ⟨_, _, _, rfl, h1, h2, h3⟩
  | comp h1 h2 h3 h4 h5 => exact ⟨_, _, _, _, _, _, _, rfl, h1, h2, h3, h4, h5⟩
  | _ => exact trivial
theorem Rep.folded {sc : Scope} {e : Expr} {pe : PE} (r : Rep sc e pe) (env : Env) (x : Value) : foldedSetIterable e env x = pure x := r.ok.folded env x
theorem Rep.marks {sc : Scope} {e : Expr} {pe : PE} (r : Rep sc e pe) (op : CmpOp) : behindInMarks op e = false := r.ok.marks op
theorem Rep.star {sc : Scope} {e : Expr} {pe : PE} (r : Rep sc e pe) (l : List Expr) (env : Env) : starEach (e :: l) env = (false, eval e env) :: starEach l env := r.ok.star l env
theorem Rep.subs {sc : Scope} {e : Expr} {pe : PE} (r : Rep sc e pe) (u v : Value) : subscripted e false u v = operate [u, v] (getItem u v) := r.ok.subs u v
theorem attrBase {o : Expr} (h : notCall o = true) (attr : Str) (env : Env) (whole : Sem Value) : attributeBase o attr env whole = whole := by cases o <;> first | rfl | exact nf h
theorem RepL.length {sc : Scope} {l : List Expr} {ps : List PE} (r : RepL sc l ps) : l.length = ps.length := by
  induction l generalizing ps with
  | nil => cases r; rfl
  | cons a l ih => cases r with | cons a b => exact congrArg (· + 1) (ih b)
end Mine
end

section
open PySem PySem.W PyProof.Rows PySem.Calls
set_option maxRecDepth 100000
namespace Mine

structure Gd (K : Frag) (mg mb : Str → Option Value) (h : Heap) : Prop where
  g : h.Ns mainGlobals mg
  b : h.Ns builtinsNs mb
  nolimit : h.NoLimit
  X : K.In h
theorem Gd.keeps {K : Frag} {mg mb : Str → Option Value} {h h' : Heap} (x : Gd K mg mb h) (k : ∀ b o, h.get? b = some o → h'.get? b = some o) : Gd K mg mb h' :=
  ⟨x.g.keeps k, x.b.keeps k, x.nolimit.keeps k, x.X.keeps k⟩
noncomputable def GlobV (mg mb : Str → Option Value) (x : Str) (v : Value) : Prop := mg x = some v ∨ (mg x = none ∧ mb x = some v)
noncomputable def AOK (n : Nat) (A : Around) : Prop := A.handled = none ∧ A.depth + n < recursionLimit ∧ A.units + 8 * n + 200 < cLine
theorem AOK.le {n m : Nat} {A : Around} (h : AOK n A) (hm : m ≤ n) : AOK m A := ⟨h.1, Nat.lt_of_le_of_lt (Nat.add_le_add_left hm _) h.2.1, Nat.lt_of_le_of_lt (Nat.add_le_add_right (Nat.add_le_add_left (Nat.mul_le_mul_left 8 hm) _) _) h.2.2⟩

/-- a variable's value: in the frame's own map, or in a cell -/
noncomputable def VarAt (env : Env) (h : Heap) (x : Str) (v : Value) : Prop :=
  (env.kindOf x = some .local ∧ ∃ m, h.Ns env.locals m ∧ m x = some v) ∨
  ((env.kindOf x = some .cell ∨ env.kindOf x = some .free) ∧ ∃ c, env.cells.lookup x = some c ∧ h.IsCell c (some v))
theorem VarAt.keeps {env : Env} {h h' : Heap} {x : Str} {v : Value} (r : VarAt env h x v) (k : ∀ b o, h.get? b = some o → h'.get? b = some o) : VarAt env h' x v := by
  rcases r with ⟨a, m, b, c⟩ | ⟨a, c, b, d⟩
  · exact .inl ⟨a, m, b.keeps k, c⟩
  · exact .inr ⟨a, c, b, d.keeps k⟩

structure EnvOK (prog : Program) (w : World) (mg : Str → Option Value) (P : Addr → Prop) (env : Env) (sc : Scope) (h : Heap) (ρ : List (Nat × D)) : Prop where
  kind : env.scope.kind = .function
  glob : env.globals = mainGlobals
  blt : env.builtins = builtinsNs
  var : ∀ x d, isVar sc x = true → dec (enc x) = x → look ρ (enc x) = some d → ∃ v, VarAt env h x v ∧ RelV prog w mg P h v d
  cells : ∀ x, (env.kindOf x = some .cell ∨ env.kindOf x = some .free) → ∃ c, env.cells.lookup x = some c
  globs : ∀ x, sc.names.lookup x = some .globalImplicit → env.kindOf x = some .globalImplicit
  cel : ∀ x, (sc.names.lookup x = some .cell) → env.kindOf x = some .cell ∨ env.kindOf x = some .free

section
variable {prog : Program} {w : World} {K : Frag} {mg mb : Str → Option Value} {P P' : Addr → Prop} {A : Around} {E : Value → Shared → Prop} {s : Shared} {env : Env} {sc : Scope} {h h' : Heap} {ρ : List (Nat × D)}

theorem EnvOK.mono (e : EnvOK prog w mg P env sc h ρ) (k : ∀ b o, h.get? b = some o → h'.get? b = some o) (kP : ∀ b o, P b → h.get? b = some o → P' b) : EnvOK prog w mg P' env sc h' ρ :=
  ⟨e.kind, e.glob, e.blt, fun n d q1 q2 q => let ⟨v, a, b⟩ := e.var n d q1 q2 q; ⟨v, a.keeps k, b.mono fun b o p q => ⟨k b o q, kP b o p q⟩⟩, e.cells, e.globs, e.cel⟩
theorem EnvOK.keeps {s' : Shared} (e : EnvOK prog w mg P env sc s.heap ρ) (k : Keeps s s') : EnvOK prog w mg P env sc s'.heap ρ := e.mono (kp k) fun _ _ p _ => p

theorem load_var {x : Str} {v : Value} {Q : Value → Shared → Prop} (hk : env.scope.kind = .function) (r : VarAt env s.heap x v) (hn : nameOk x = true) (hQ : Q v s) : wpAny (model prog w) A (loadName env x) Q E s := by
  simp only [nameOk, Bool.and_eq_true, Bool.not_eq_true'] at hn
  rcases r with ⟨a, m, b, c⟩ | ⟨a | a, c, b, d⟩
  · exact wpAny_loadName_local hk a b c hQ
  · exact wpAny_loadName_cell hk a b d hQ
  · exact wpAny_loadName_free hk a b d hQ hn.2
theorem s_var {x : Str} {v : Value} {pos : Pos} {Q : Value → Shared → Prop} (hk : env.scope.kind = .function) (r : VarAt env s.heap x v) (hn : nameOk x = true) (hQ : Q v s) : wpAny (model prog w) A (eval (.Name x pos) env) Q E s := by
  refine wpAny_Name (load_var hk r hn hQ) ?_
  simp only [nameOk, Bool.and_eq_true, Bool.not_eq_true'] at hn
  exact hn.1
theorem s_glob {x : Str} {v : Value} {pos : Pos} {Q : Value → Shared → Prop} (G : Gd K mg mb s.heap) (hk : env.scope.kind = .function) (hg : env.globals = mainGlobals) (hb : env.builtins = builtinsNs)
    (hl : env.kindOf x = some .globalImplicit) (r : GlobV mg mb x v) (hn : nameOk x = true) (hQ : Q v s) : wpAny (model prog w) A (eval (.Name x pos) env) Q E s := by
  simp only [nameOk, Bool.and_eq_true, Bool.not_eq_true'] at hn
  refine wpAny_Name ?_ hn.1
  unfold loadName
  simp only [Env.blockKind, hk, hl, ScopeKind.isAnnotationScope, Bool.false_and, Bool.false_eq_true, if_false]
  unfold loadGlobal
  rw [hg, hb]
  rcases r with r | ⟨r1, r2⟩
  · refine wpAny_bind (wpAny_nsGet G.g ?_)
    rw [r]
    exact wpAny_pure hQ
  · refine wpAny_bind (wpAny_nsGet G.g ?_)
    rw [r1]
    refine wpAny_bind (wpAny_nsGet G.b ?_)
    rw [r2]
    exact wpAny_pure hQ

/-- an own object's field: no class on the way bears the name -/
noncomputable def ClsFld (K : Frag) (C : Addr) (n : Nat) : Prop := ∃ cd, clsIn K C = some cd ∧ cd.hasDict = true ∧ findIn K (.ref C) "__getattribute__" = some (some (.builtin "object.__getattribute__")) ∧ findIn K (.ref C) (dec n) = some none
theorem handed_rel {v : Value} {d : D} (r : RelV prog w mg P h v d) (ht : notTop d = true) : handedIn v = true := by
  exact RelV.casesOn (motive_1 := fun v d _ => notTop d = true → handedIn v = true) r (fun _ => rfl) (fun _ _ => rfl) (fun _ _ _ => rfl) (fun _ _ _ => rfl) (fun _ _ _ _ _ => rfl) (fun _ _ _ _ => rfl) (fun _ _ _ => rfl) (fun _ _ _ _ _ _ _ _ => rfl) (fun _ _ _ _ _ => rfl) (fun _ e => nf e) ht
theorem s_attr {C : Addr} {n : Nat} {x : Addr} {ox od : Obj} {v : Value} {expr : Bool} {Q : Value → Shared → Prop} (G : Gd K mg mb s.heap) (F : ClsFld K C n) (I : InstAt s.heap x ox C (some od)) (hv : lookIn (dec n) od = some (some v)) (hh : handedIn v = true)
    (hQ : ∀ tk, Q v { s with toks := tk }) : wpAny (model prog w) A (getAttr (.ref x) (dec n) expr) Q E s := by
  obtain ⟨cd, h1, h2, h3, h4⟩ := F
  refine get_value G.X I h3 ?_ hh (hQ _)
  unfold findObj
  simp only [h1, h4, Option.bind_some, PySem.W.ownOf, h2, if_true, hv]

theorem truth_rel {v : Value} {b : Bool} {Q : Bool → Shared → Prop} (r : RelV prog w mg P s.heap v (.bool b)) (hQ : Q b s) : wpAny (model prog w) A (truthy v) Q E s := by
  apply RelV.eBool r
  exact wpAny_truthy_bool hQ

theorem neg_le {k : Int} {n : Nat} (h : 0 ≤ k + n) : -(n : Int) ≤ k := by omega
theorem fits_lo {k : Int} (h : fits63 k = true) : -(2 ^ 63 : Int) ≤ k := of_decide_eq_true (Bool.and_eq_true_iff.mp h).1
theorem fits_hi {k : Int} (h : fits63 k = true) : k < 2 ^ 63 := of_decide_eq_true (Bool.and_eq_true_iff.mp h).2
theorem s_item {a i d : D} {u v : Value} {value slice : Expr} {Q : Value → Shared → Prop} (e : itemD a i = some d) (ra : RelV prog w mg P s.heap u a) (ri : RelV prog w mg P s.heap v i)
    (hs : subscripted slice false u v = operate [u, v] (getItem u v)) (hQ : ∀ v s', Post prog w mg P s d v s' → Q v s') : wpAny (model prog w) A (subscriptTail value slice u v) Q E s := by
  cases a with
  | tup l =>
    apply dIn e; clear e; intro k hk e; subst hk
    apply iB e; clear e; intro hf e
    apply iN e; clear e; intro j hj hd
    apply RelV.qInt ri; clear ri; intro t qq_; subst qq_
    apply RelV.qTup ra; clear ra; intro _ _ qq_ hp ht rl nd; subst qq_
    rw [← rl.length] at hj
    refine (rl.get hd).elim fun x H => ?_
    exact tail_any ht.typeIs slot_tuple_getitem.lookup (getItem_tuple ht (fits_lo hf) (fits_hi hf) hj ((List.getElem?_toArray ..).trans H.1) (hQ _ _ ⟨kRfl s, H.2⟩)) hs
  | lst l =>
    apply dIn e; clear e; intro k hk e; subst hk
    apply iB e; clear e; intro hf e
    apply iN e; clear e; intro j hj hd
    apply RelV.qInt ri; clear ri; intro t qq_; subst qq_
    apply RelV.qLst ra; clear ra; intro _ vs qq_ hp ht rl; subst qq_
    rw [← rl.length] at hj
    refine (rl.get hd).elim fun x H => ?_
    refine tail_any ht.typeIs slot_list_getitem.lookup ?_ hs
    apply iB hj; clear hj; intro hc hj
    have hj := Option.some.inj hj; clear hd; subst hj
    have hc := Bool.and_eq_true_iff.mp hc
    by_cases h0 : k < 0
    · rw [if_pos h0] at H hc
      exact wpAny_getItem_list_neg ht h0 (neg_le (of_decide_eq_true hc.1)) (fits_lo hf) ((List.getElem?_toArray ..).trans H.1) (hQ _ _ ⟨kRfl s, H.2⟩)
    · rw [if_neg h0] at H
      exact wpAny_getItem_list ht (Int.not_lt.mp h0) (fits_hi hf) ((List.getElem?_toArray ..).trans H.1) (hQ _ _ ⟨kRfl s, H.2⟩)
  | str x =>
    apply dIn e; clear e; intro k hk e; subst hk
    apply iB e; clear e; intro hf e
    apply iN e; clear e; intro j hj hd
    apply iM hd; clear hd; intro c hc e; subst e
    apply RelV.qInt ri; clear ri; intro t qq_; subst qq_
    apply RelV.qStr ra; clear ra; intro t' qq_; subst qq_
    refine tail_any (T := "str") rfl PySem.F.slot_str_getitem.lookup (PySem.P.getItem_str (c := c) ?_ ?_ ?_) hs
    · rw [decide_eq_false (Int.not_lt.mpr (fits_lo hf)), decide_eq_false (Int.not_le.mpr (fits_hi hf))]; rfl
    · rw [hj]; exact hc
    · exact hQ _ _ ⟨kTk s _, .str _ _⟩
  | dct es =>
    apply dSt e; clear e; intro k hk e; subst hk
    apply RelV.qStr ri; clear ri; intro t qq_; subst qq_
    apply RelV.qDct ra; clear ra; intro _ _ qq_ hp hsys hd he; subst qq_
    refine (he.get e).elim fun x H => ?_
    exact tail_any hd.typeIs slot_dict_getitem.lookup (wpAny_getItem_of (knd := PySem.strKind prog w) (k := k) (by simp [PySem.strKind, Value.isStrOf]) hd.mapOf H.1 (hQ _ _ ⟨kTk s _, H.2.keeps (kTk s _)⟩)) hs
  | _ => exact nn e
end
end Mine
end

section
open PySem PySem.W PyProof.Rows PySem.Calls
set_option maxRecDepth 100000
namespace Mine

theorem isSome_of {h : Heap} {b : Addr} {o : Obj} (e : h.get? b = some o) : (h.get? b).isSome = true := by rw [e]; rfl
section
variable {p : Nat × D} {r : List (Nat × D)} {x y : Nat} {d : D}
theorem lookT (h : Nat.beq p.1 y = true) : look (p :: r) y = some p.2 := by
  show (match Nat.beq p.1 y with | true => some p.2 | false => look r y) = _
  rw [h]
theorem lookF (h : Nat.beq p.1 y = false) : look (p :: r) y = look r y := by
  show (match Nat.beq p.1 y with | true => some p.2 | false => look r y) = _
  rw [h]
theorem putT (h : Nat.beq p.1 x = true) : put (p :: r) x d = (x, d) :: r := by
  show (match Nat.beq p.1 x with | true => (x, d) :: r | false => p :: put r x d) = _
  rw [h]
theorem putF (h : Nat.beq p.1 x = false) : put (p :: r) x d = p :: put r x d := by
  show (match Nat.beq p.1 x with | true => (x, d) :: r | false => p :: put r x d) = _
  rw [h]
theorem bn {a b : Nat} (h : ¬ b = a) : Nat.beq a b = false := Bool.eq_false_iff.mpr fun q => h (Nat.eq_of_beq_eq_true q).symm
end
theorem look_put (ρ : List (Nat × D)) (x : Nat) (d : D) (y : Nat) : look (put ρ x d) y = if y = x then some d else look ρ y := by
  by_cases q : y = x
  · subst q
    rw [if_pos rfl]
    induction ρ with
    | nil => exact lookT (Nat.beq_refl y)
    | cons p r ih =>
      cases hx : Nat.beq p.1 y with
      | true => rw [putT hx]; exact lookT (Nat.beq_refl y)
      | false => rw [putF hx, lookF hx]; exact ih
  · rw [if_neg q]
    induction ρ with
    | nil => exact lookF (bn q)
    | cons p r ih =>
      cases hx : Nat.beq p.1 x with
      | true => rw [putT hx, lookF (p := (x, d)) (bn q), lookF (bn (Nat.eq_of_beq_eq_true hx ▸ q))]
      | false =>
        rw [putF hx]
        cases hy : Nat.beq p.1 y with
        | true => rw [lookT hy, lookT hy]
        | false => rw [lookF hy, lookF hy]; exact ih

section
variable {prog : Program} {w : World} {mg : Str → Option Value} {P : Addr → Prop} {A : Around} {E : Value → Shared → Prop} {s : Shared}

theorem fitsLong {i : Int} (h0 : 0 ≤ i) (h1 : i ≤ 2000) : Builtin.Range.rangeFitsLong i = true := by
  unfold Builtin.Range.rangeFitsLong
  rw [Bool.and_eq_true, decide_eq_true_eq, decide_eq_true_eq]
  constructor <;> omega
theorem range_small (n : Nat) (hn : n ≤ 1000) (hrs : Builtin.Range.rangeSize 0 n 1 = n) : Builtin.Range.small 0 n 1 = true := by
  unfold Builtin.Range.small
  rw [hrs, fitsLong (by omega) (by omega), fitsLong (by omega) (by omega), fitsLong (by omega) (by omega), if_pos (by decide), fitsLong (by omega) (by omega)]
  simp
/-- what an iterator over a source is -/
structure SrcW (prog : Program) (w : World) (mg : Str → Option Value) (P : Addr → Prop) (A : Around) (ds : List D) (s : Shared) (fp : List Addr) (PV : Nat → Value → Prop) (St : Nat → Heap → Prop) (s' : Shared) : Prop where
  k : Keeps s s'
  lt : s.heap.objs.size < s'.heap.objs.size
  al : ∀ i h, St i h → (h.get? s.heap.objs.size).isSome = true
  W : Walks prog w A s.heap.objs.size fp [s.heap.objs.size] ds.length PV St
  st : St 0 s'.heap
  fp : ∀ b ∈ fp, b = s.heap.objs.size ∨ (P b ∧ ∃ o, s.heap.get? b = some o)
  pv : ∀ i v d, PV i v → ds[i]? = some d → RelV prog w mg P s.heap v d
def SrcIt (prog : Program) (w : World) (mg : Str → Option Value) (P : Addr → Prop) (A : Around) (ds : List D) (s : Shared) (it : Value) (s' : Shared) : Prop :=
  ∀ M : Value → Prop, (∀ fp PV St, SrcW prog w mg P A ds s fp PV St s' → M (.ref s.heap.objs.size)) → M it
section
variable {fp : List Addr} {PV : Nat → Value → Prop} {St : Nat → Heap → Prop} {ds : List D} {n : Nat} {o : Obj}
theorem SrcIt.of (al : ∀ i h, St i h → (h.get? s.heap.objs.size).isSome = true) (W : Walks prog w A s.heap.objs.size fp [s.heap.objs.size] n PV St) (hn : n = ds.length) (st : St 0 (s.heap.push o)) (hf : ∀ b ∈ fp, b = s.heap.objs.size ∨ (P b ∧ ∃ o, s.heap.get? b = some o))
    (rel : ∀ i v d, PV i v → ds[i]? = some d → RelV prog w mg P s.heap v d) : SrcIt prog w mg P A ds s (.ref s.heap.objs.size) { s with heap := s.heap.push o } :=
  fun _ k => k fp PV St ⟨kPush s _ s.toks, by rw [Heap.size_push]; exact Nat.lt_succ_self _, al, hn ▸ W, st, hf, rel⟩
theorem fp2 {a : Addr} (hp : P a) (ha : ∃ o, s.heap.get? a = some o) : ∀ b ∈ [s.heap.objs.size, a], b = s.heap.objs.size ∨ (P b ∧ ∃ o, s.heap.get? b = some o)
  | _, .head _ => .inl rfl
  | _, .tail _ (.head _) => .inr ⟨hp, ha⟩
theorem fp1 : ∀ b ∈ [s.heap.objs.size], b = s.heap.objs.size ∨ (P b ∧ ∃ o, s.heap.get? b = some o)
  | _, .head _ => .inl rfl
theorem seq_rel {vs : List Value} (rl : RelL prog w mg P s.heap vs ds) (i : Nat) (v : Value) (d : D) (hv : vs.toArray[i]? = some v) (hd : ds[i]? = some d) : RelV prog w mg P s.heap v d :=
  (rl.get hd).elim fun x H => Option.some.inj (H.1.symm.trans ((List.getElem?_toArray ..).symm.trans hv)) ▸ H.2
end
theorem src_iter {v : Value} {src : D} {ds : List D} {Q : Value → Shared → Prop} (hh : A.handled = none) (r : RelV prog w mg P s.heap v src) (e : itemsD src = some ds) (hQ : ∀ it s', SrcIt prog w mg P A ds s it s' → Q it s') :
    wpAny (model prog w) A (pyIter v) Q E s := by
  cases src with
  | tup l =>
    have e := Option.some.inj e; subst e
    apply RelV.eTup r; clear r; intro a vs hp ht rl nd
    exact wpAny_pyIter_tuple ht (hQ _ _ (.of (St := fun i h => h.IsTupleIter s.heap.objs.size a i ∧ h.IsTuple a vs.toArray) (fun i h H => H.1.elim fun _ q => isSome_of q.1) (Walks.tuple hh s.heap.objs.size a (Nat.ne_of_lt ht.lt) vs.toArray) rl.length ⟨⟨_, Heap.get?_push_size _ rfl, rfl, rfl⟩, IsTup.push ht _⟩ (fp2 hp (ht.imp fun _ q => q.1)) (seq_rel rl)))
  | lst l =>
    have e := Option.some.inj e; subst e
    apply RelV.eLst r; clear r; intro a vs hp ht rl
    exact wpAny_pyIter_list ht (hQ _ _ (.of (St := fun i h => h.IsListIter s.heap.objs.size a i ∧ h.IsList a vs.toArray) (fun i h H => H.1.elim fun _ q => isSome_of q.1) (Walks.list hh s.heap.objs.size a (ht.elim fun _ q => Nat.ne_of_lt (Heap.lt_size q.1)) vs.toArray) rl.length ⟨⟨_, Heap.get?_push_size _ rfl, rfl, rfl⟩, ht.push _⟩ (fp2 hp (ht.imp fun _ q => q.1)) (seq_rel rl)))
  | rng n =>
    apply iB e; clear e; intro hn e
    have e := Option.some.inj e; subst e
    have hn' : n ≤ 1000 := Nat.le_of_ble_eq_true hn
    apply RelV.eRng r; clear r; intro _ _ _ _ hp hr
    have hrs : Builtin.Range.rangeSize 0 n 1 = n := by simp [Builtin.Range.rangeSize]; omega
    refine wpAny_pyIter_range hr (range_small n hn' hrs) (hQ _ _ (.of (St := fun i h => IsRangeIter h s.heap.objs.size (0 + (i : Nat) * 1) ((n : Int) - (i : Nat)) 1) (fun i h ho => isSome_of ho) (Walks.range hh s.heap.objs.size 0 1 n) (by simp) ?_ fp1 ?_))
    · show IsRangeIter _ _ _ _ _
      rw [hrs]
      simpa using Heap.get?_push_size _ rfl
    · rintro i v d ⟨t, rfl⟩ hd
      simp only [List.getElem?_map, Option.map_eq_some_iff] at hd
      obtain ⟨k, hk, rfl⟩ := hd
      obtain ⟨_, rfl⟩ := List.getElem?_eq_some_iff.mp hk
      have : (0 : Int) + (i : Int) * 1 = ((List.range n)[i] : Nat) := by simp
      rw [this]
      exact .int _ _
  | str x =>
    have e := Option.some.inj e; subst e
    apply RelV.eStr r; clear r; intro t
    have fin : ∀ (o : Obj) (St : Nat → Heap → Prop), (∀ i h, St i h → (h.get? s.heap.objs.size).isSome = true) → Walks prog w A s.heap.objs.size [s.heap.objs.size] [s.heap.objs.size] x.cps.size (SignAt x) St → St 0 (s.heap.push o) → Q (.ref s.heap.objs.size) { s with heap := s.heap.push o } := by
      intro o St al W st
      refine hQ _ _ (.of al W (by simp) st fp1 ?_)
      rintro i v d ⟨c, u, hc, rfl⟩ hd
      rw [List.getElem?_map, Array.getElem?_toList, hc] at hd
      exact Option.some.inj hd ▸ .str _ _
    cases ha : x.cps.all (· < 128)
    · exact wpAny_pyIter_wide ha (fin _ _ (fun i h H => H.elim fun _ q => isSome_of q.1) (Walks.strWide hh _ x t) ⟨_, Heap.get?_push_size _ rfl, rfl, rfl⟩)
    · exact wpAny_pyIter_ascii ha (fin _ _ (fun i h H => H.elim fun _ q => isSome_of q.1) (Walks.strAscii hh _ x t) ⟨_, Heap.get?_push_size _ rfl, rfl, rfl⟩)
  | _ => cases e
end
end Mine
end

section
open PySem PySem.W PyProof.Rows PySem.Calls
set_option maxRecDepth 100000
namespace Mine

noncomputable def closGo (env : Env) : List (Str × NameKind) → List (Str × Addr) → List (Str × Addr)
  | [], acc => acc
  | (n, k) :: r, acc => if k == .free then (match env.cells.lookup n with
    | some c => closGo env r ((n, c) :: acc)
    | none => closGo env r acc) else closGo env r acc
theorem cg_eq {env : Env} (n : Str) (k : NameKind) (r : List (Str × NameKind)) (acc : List (Str × Addr)) : closGo env ((n, k) :: r) acc = if k == .free then (match env.cells.lookup n with
    | some c => closGo env r ((n, c) :: acc)
    | none => closGo env r acc) else closGo env r acc := rfl
theorem clos_forIn {env : Env} (f : Str × NameKind → List (Str × Addr) → Sem (ForInStep (List (Str × Addr))))
    (hf : ∀ n k acc, f (n, k) acc = if k == .free then (do let a ← cellOf env n; pure (.yield ((n, a) :: acc))) else pure (.yield acc))
    (l : List (Str × NameKind)) (acc : List (Str × Addr)) (h : ∀ x ∈ l, x.2 = .free → ∃ c, env.cells.lookup x.1 = some c) : forIn l acc f = pure (closGo env l acc) := by
  induction l generalizing acc with
  | nil => rw [List.forIn_nil]; rfl
  | cons p r ih =>
    cases p with | mk n k => ?_
    have ih := fun acc => ih acc fun x hx => h x (List.mem_cons_of_mem _ hx)
    rw [List.forIn_cons, hf, cg_eq]
    by_cases q : (k == NameKind.free) = true
    · refine (h (n, k) (List.mem_cons_self ..) (beq_iff_eq.mp q)).elim fun c hc => ?_
      have hc : env.cells.lookup n = some c := hc
      have e : cellOf env n = pure c := by unfold cellOf; rw [hc]
      rw [if_pos q, if_pos q, e, hc]
      exact ih _
    · rw [if_neg q, if_neg q]
      exact ih _
theorem closureFor_eq {env : Env} {sc : Scope} (h : ∀ x ∈ sc.names, x.2 = .free → ∃ c, env.cells.lookup x.1 = some c) : closureFor sc env = pure (closGo env sc.names []) := by
  unfold closureFor
  have := clos_forIn (env := env) (fun (x : Str × NameKind) (cs : List (Str × Addr)) => if x.2 == .free then (do let a ← cellOf env x.1; pure (.yield ((x.1, a) :: cs))) else pure (.yield cs)) (fun _ _ _ => rfl) sc.names [] h
  have e := congrArg (fun t : Sem (List (Str × Addr)) => t >>= fun cs => pure cs) this
  refine Eq.trans ?_ (e.trans rfl)
  rfl
theorem cg_step {env : Env} (p : Str × NameKind) (r : List (Str × NameKind)) (acc : List (Str × Addr)) {G : Prop} (k1 : closGo env (p :: r) acc = closGo env r acc → G) (k2 : ∀ c, env.cells.lookup p.1 = some c → closGo env (p :: r) acc = closGo env r ((p.1, c) :: acc) → G) : G := by
  by_cases q : (p.2 == NameKind.free) = true
  · cases hc : env.cells.lookup p.1 with
    | some c => exact k2 c hc (by rw [cg_eq p.1 p.2, if_pos q, hc])
    | none => exact k1 (by rw [cg_eq p.1 p.2, if_pos q, hc])
  · exact k1 (by rw [cg_eq p.1 p.2, if_neg q])
theorem cg_acc {env : Env} {y : Str} {c : Addr} (h : env.cells.lookup y = some c) (l : List (Str × NameKind)) (acc : List (Str × Addr)) (ha : acc.lookup y = some c) : (closGo env l acc).lookup y = some c := by
  induction l generalizing acc with
  | nil => exact ha
  | cons p r ih =>
    apply cg_step p r acc
    · intro e; rw [e]; exact ih acc ha
    · intro c' hc e; rw [e]
      refine ih _ ?_
      by_cases q : y = p.1
      · subst q; rw [List.lookup_cons_self, ← hc]; exact h
      · rw [List.lookup_cons, beq_eq_false_iff_ne.mpr q]; exact ha
theorem closGo_lookup {env : Env} {y : Str} {c : Addr} (h : env.cells.lookup y = some c) (l : List (Str × NameKind)) (acc : List (Str × Addr)) (hm : (y, NameKind.free) ∈ l) : (closGo env l acc).lookup y = some c := by
  induction l generalizing acc with
  | nil => exact nomatch hm
  | cons p r ih =>
    rcases List.mem_cons.mp hm with q | q
    · subst q
      rw [cg_eq, if_pos (by decide), h]
      exact cg_acc h r _ List.lookup_cons_self
    · apply cg_step p r acc
      · intro e; rw [e]; exact ih acc q
      · intro c' _ e; rw [e]; exact ih _ q

theorem ite_pair {c : Bool} {n : Str} {a k : NameKind} : (if c then (n, a) else (n, k)) = (n, if c then a else k) := by cases c <;> rfl
theorem lookup_relabel (sc : Scope) (env : Env) (y : Str) : (relabel sc env).names.lookup y = (sc.names.lookup y).map fun k => if (k == .free && env.scope.kind == .function && env.kindOf y == some .cell) then NameKind.cell else k := by
  refine List.rec (motive := fun l => (l.map fun ((n, k) : Str × NameKind) => if (k == .free && env.scope.kind == .function && env.kindOf n == some .cell) then (n, NameKind.cell) else (n, k)).lookup y = (l.lookup y).map fun k => if (k == .free && env.scope.kind == .function && env.kindOf y == some .cell) then NameKind.cell else k) rfl (fun p r ih => ?_) sc.names
  cases p with | mk n k => ?_
  rw [List.map_cons]
  dsimp only
  rw [ite_pair, List.lookup_cons, List.lookup_cons]
  by_cases q : y = n
  · rw [← q, beq_self_eq_true]; rfl
  · rw [beq_eq_false_iff_ne.mpr q]; exact ih
theorem mem_of_look {l : List (Str × NameKind)} {y : Str} {k : NameKind} (h : l.lookup y = some k) : (y, k) ∈ l := by
  induction l with
  | nil => exact nn h
  | cons p r ih =>
    rw [List.lookup_cons] at h
    by_cases q : y = p.1
    · rw [q, beq_self_eq_true] at h; rw [q, ← Option.some.inj h]; exact List.mem_cons_self ..
    · rw [beq_eq_false_iff_ne.mpr q] at h; exact List.mem_cons_of_mem _ (ih h)

structure CompSc (sc sc' : Scope) (x : Str) : Prop where
  kind : sc'.kind = .function
  cell : ∀ y ∈ sc'.names, y.2 ≠ .cell
  loc : sc'.names.lookup x = some .local
  locs : ∀ y ∈ sc'.names, y.2 = .local → sc'.names.lookup y.1 = some .local ∧ (y.1 = x ∨ y.1 = (".0" : Str))
  free : ∀ y ∈ sc'.names, y.2 = .free → sc.names.lookup y.1 = some .cell
theorem compSc_of {sc sc' : Scope} {x : Str} (h : compScOk sc sc' x = true) : CompSc sc sc' x := by
  simp only [compScOk, Bool.and_eq_true, List.all_eq_true, beq_iff_eq, Bool.or_eq_true, Bool.not_eq_true', beq_eq_false_iff_ne] at h
  obtain ⟨⟨⟨⟨h1, h2⟩, h3⟩, h4⟩, h5⟩ := h
  refine ⟨h1, h2, h3, fun y hy e => ?_, fun y hy e => ?_⟩
  · rcases h4 y hy with q | q
    · exact absurd e q
    · exact q
  · rcases h5 y hy with q | q
    · exact absurd e q
    · split at q
      · assumption
      · first | exact nn q | exact nf q

section
variable {prog : Program} {w : World} {K : Frag} {mg mb : Str → Option Value} {P P' : Addr → Prop} {A : Around} {E : Value → Shared → Prop} {s : Shared} {env : Env} {sc sc' : Scope} {h h' : Heap} {ρ : List (Nat × D)} {x : Str}

theorem isVar_cases {sc : Scope} {y : Str} (h : isVar sc y = true) : y ≠ (".0" : Str) ∧ (sc.names.lookup y = some .local ∨ sc.names.lookup y = some .cell ∨ sc.names.lookup y = some .free) := by
  have h := Bool.and_eq_true_iff.mp h
  refine ⟨beq_eq_false_iff_ne.mp ((Bool.not_eq_true' _).mp h.1), ?_⟩
  have h := h.2
  cases q : sc.names.lookup y with
  | none => rw [q] at h; exact nf h
  | some k =>
    rw [q] at h
    cases k with
    | «local» => exact .inl rfl
    | cell => exact .inr (.inl rfl)
    | free => exact .inr (.inr rfl)
    | _ => exact nf h

theorem compEnvOK (EO : EnvOK prog w mg P env sc h ρ) (S : CompSc sc sc' x) (hx : dec (enc x) = x) (k : ∀ b o, h.get? b = some o → h'.get? b = some o) (kP : ∀ b o, P b → h.get? b = some o → P' b)
    {C : Addr} {m : Str → Option Value} (hn : h'.Ns C m) {v : Value} {d : D} (hm : m x = some v) (hr : RelV prog w mg P' h' v d) :
    EnvOK prog w mg P' (compEnvC sc' (closGo env sc'.names []) C env) sc' h' (put ρ (enc x) d) := by
  have hfree : ∀ y, sc'.names.lookup y = some .free → sc.names.lookup y = some .cell := fun y hy => S.free _ (mem_of_look hy) rfl
  have hcl : ∀ y, sc'.names.lookup y = some .free → ∃ c, env.cells.lookup y = some c ∧ (closGo env sc'.names []).lookup y = some c := fun y hy => by
    obtain ⟨c, hc⟩ := EO.cells y (EO.cel y (hfree y hy))
    exact ⟨c, hc, closGo_lookup hc _ _ (mem_of_look hy)⟩
  have kd : ∀ y, (compEnvC sc' (closGo env sc'.names []) C env).kindOf y = _ := fun y => lookup_relabel sc' env y
  have noc : ∀ y, sc'.names.lookup y ≠ some .cell := fun y hy => S.cell _ (mem_of_look hy) rfl
  refine ⟨S.kind, EO.glob, EO.blt, fun y d' hv hy hl => ?_, fun y hy => ?_, fun y hy => ?_, fun y hy => absurd hy (noc y)⟩
  · obtain ⟨h0, hk⟩ := isVar_cases hv
    rw [look_put] at hl
    rcases hk with hk | hk | hk
    · obtain ⟨_, e⟩ := S.locs _ (mem_of_look hk) rfl
      have e : y = x := e.resolve_right h0
      subst e
      rw [if_pos rfl] at hl
      cases hl
      refine ⟨v, .inl ⟨?_, m, hn, hm⟩, hr⟩
      rw [kd, hk]; rfl
    · exact absurd hk (noc y)
    · have hxy : ¬ (enc y = enc x) := fun e => by
        have : y = x := by rw [← hy, e, hx]
        rw [this, S.loc] at hk; exact nomatch hk
      rw [if_neg hxy] at hl
      have hsc := hfree y hk
      have hv' : isVar sc y = true := by
        simp only [isVar, hsc, Bool.and_true, Bool.not_eq_true']
        exact beq_eq_false_iff_ne.mpr h0
      obtain ⟨u, ha, hu⟩ := EO.var y d' hv' hy hl
      refine ⟨u, .inr ⟨?_, ?_⟩, hu.mono fun b o p q => ⟨k b o q, kP b o p q⟩⟩
      · rw [kd, hk]
        simp only [Option.map_some]
        cases (NameKind.free == NameKind.free && env.scope.kind == ScopeKind.function && env.kindOf y == some NameKind.cell)
        · exact .inr rfl
        · exact .inl rfl
      · obtain ⟨c, h1, h2⟩ := hcl y hk
        refine ⟨c, h2, ?_⟩
        rcases ha with a1 | b
        · rcases EO.cel y hsc with z | z <;> exact nomatch a1.1.symm.trans z
        · exact b.2.elim fun c' b => (Option.some.inj (h1.symm.trans b.1)) ▸ b.2.keeps k
  · have : sc'.names.lookup y = some .free := by
      rw [kd] at hy
      cases q : sc'.names.lookup y with
      | none => rw [q] at hy; rcases hy with hy | hy <;> cases hy
      | some kk =>
        rw [q] at hy
        simp only [Option.map_some] at hy
        split at hy
        · rename_i z
          simp only [Bool.and_eq_true, beq_iff_eq] at z
          rw [z.1.1]
        · rcases hy with hy | hy
          · cases hy; exact absurd q (noc y)
          · exact hy
    obtain ⟨c, _, h2⟩ := hcl y this
    exact ⟨c, h2⟩
  · rw [kd, hy]; rfl
end
end Mine
end

section
open PySem PySem.W PyProof.Rows PySem.Calls
set_option maxRecDepth 100000
namespace Mine
section
variable {prog : Program} {w : World} {K : Frag} {mg mb : Str → Option Value} {P : Addr → Prop} {A : Around} {E : Value → Shared → Prop} {s : Shared} {env : Env} {sc sc' : Scope} {ρ : List (Nat × D)} {x : Str}

/-- addresses that a comprehension leaves alone -/
def NP (P : Addr → Prop) (I D0 C : Addr) (b : Addr) : Prop := P b ∧ b ≠ I ∧ b ≠ D0 ∧ b ≠ C
section
variable (prog w K mg mb P A env sc sc' ρ x)
/-- what holds while a comprehension runs -/
structure CC (h₁ : Heap) (fp : List Addr) (PV : Nat → Value → Prop) (St : Nat → Heap → Prop) (I D0 C : Addr) (ds : List D) : Prop where
  ic : I ≠ C
  id : I ≠ D0
  dc : D0 ≠ C
  fd : D0 ∉ fp
  fc : C ∉ fp
  al : ∀ i h, St i h → (h.get? I).isSome = true
  W : Walks prog w A I fp [I] ds.length PV St
  pv : ∀ i v d, PV i v → ds[i]? = some d → RelV prog w mg P h₁ v d
  low : ∀ b o, h₁.get? b = some o → b ≠ I ∧ b ≠ D0 ∧ b ≠ C
  eo : EnvOK prog w mg P env sc h₁ ρ
  sc : CompSc sc sc' x
  gd : Gd K mg mb h₁
  fr : FreshIn P h₁
  hx : dec (enc x) = x
variable (t : D → Option Bool) (f : D → Option D) (outs : List D)
/-- the state between two turns -/
structure CI (h₁ : Heap) (St : Nat → Heap → Prop) (I D0 C : Addr) (ds : List D) (H : Heap) (m : Str → Option Value) (ys : Array Value) (j : Nat) (out : List D) : Prop where
  st : St j H
  pl : H.PlainList D0 ys
  ns : H.Ns C m
  rel : RelL prog w mg (NP P I D0 C) H ys.toList out
  km : (keepM t f (ds.drop j)).map (out ++ ·) = some outs
  hj : j ≤ ds.length
  hol : out.length ≤ j
  hk : ∀ b o, h₁.get? b = some o → H.get? b = some o
inductive CL (h₁ : Heap) (St : Nat → Heap → Prop) (I D0 C : Addr) (ds : List D) (s₂ : Shared) (k : Nat) (s' : Shared) : Prop
  | mk (H : Heap) (tk : Nat) (m : Str → Option Value) (ys : Array Value) (j : Nat) (out : List D) (e : { s₂ with heap := H, toks := tk } = s') (ek : ds.length + 1 - j = k) (i : CI prog w mg P t f outs h₁ St I D0 C ds H m ys j out) : CL h₁ St I D0 C ds s₂ k s'
/-- the state within a turn -/
structure CT (h₁ : Heap) (St : Nat → Heap → Prop) (I D0 C : Addr) (cenv : Env) (H : Heap) (m : Str → Option Value) (ys : Array Value) (j : Nat) (out : List D) (d : D) : Prop where
  st : St (j + 1) H
  pl : H.PlainList D0 ys
  ns : H.Ns C m
  rel : RelL prog w mg (NP P I D0 C) H ys.toList out
  hol : out.length ≤ j
  hk : ∀ b o, h₁.get? b = some o → H.get? b = some o
  eo : EnvOK prog w mg (NP P I D0 C) cenv sc' H (put ρ (enc x) d)
end
section
variable {h₁ H H' : Heap} {fp : List Addr} {PV : Nat → Value → Prop} {St : Nat → Heap → Prop} {I D0 C : Addr} {ds out outs : List D} {m m' : Str → Option Value} {ys : Array Value} {j : Nat} {d d' : D} {v : Value} {cenv : Env} {t : D → Option Bool} {f : D → Option D}
theorem km_step {G : Prop} (hd : ds[j]? = some d) (km : (keepM t f (ds.drop j)).map (out ++ ·) = some outs) (k1 : t d = some false → (keepM t f (ds.drop (j + 1))).map (out ++ ·) = some outs → G)
    (k2 : ∀ d', t d = some true → f d = some d' → (keepM t f (ds.drop (j + 1))).map (out ++ [d'] ++ ·) = some outs → G) : G := by
  have e : ds.drop j = d :: ds.drop (j + 1) := (List.getElem?_eq_some_iff.mp hd).elim fun hl e => e ▸ List.drop_eq_getElem_cons hl
  rw [e] at km
  apply iM km; clear km; intro l hl q
  apply iCf hl <;> clear hl
  · intro ht hl; apply iD hl; clear hl; intro d' hf hl; apply iM hl; clear hl; intro l' hl' q'
    subst q'
    exact k2 d' ht hf (by rw [hl', ← q]; exact congrArg some (List.append_assoc ..))
  · intro ht hl
    exact k1 ht (by rw [hl]; exact congrArg some q)
theorem CC.notI {b : Addr} (q : b ≠ I) : b ∉ [I] := fun z => q (List.mem_singleton.mp z)
theorem CT.keeps (c : CC prog w K mg mb P A env sc sc' ρ x h₁ fp PV St I D0 C ds) (T : CT prog w mg P sc' ρ x h₁ St I D0 C cenv H m ys j out d) (k : ∀ b o, H.get? b = some o → H'.get? b = some o) : CT prog w mg P sc' ρ x h₁ St I D0 C cenv H' m ys j out d :=
  ⟨c.W.frame _ _ _ T.st fun b _ o e => k b o e, T.pl.at fun o e => k _ o e, T.ns.keeps k, RelL.mono (fun b o pb e => ⟨k b o e, pb⟩) T.rel, T.hol, fun b o e => k b o (T.hk b o e), T.eo.mono k fun _ _ pb _ => pb⟩
theorem CT.fresh (c : CC prog w K mg mb P A env sc sc' ρ x h₁ fp PV St I D0 C ds) (T : CT prog w mg P sc' ρ x h₁ St I D0 C cenv H m ys j out d) : FreshIn (NP P I D0 C) H := fun b e =>
  ⟨c.fr.keeps T.hk b e, fun q => nz e (q ▸ c.al _ _ T.st), fun q => T.pl.elim fun _ z => Mine.ns (z.symm.trans (q ▸ e)), fun q => T.ns.elim fun _ z => z.elim fun _ z => z.elim fun _ z => Mine.ns (z.1.symm.trans (q ▸ e))⟩
theorem CT.gd (c : CC prog w K mg mb P A env sc sc' ρ x h₁ fp PV St I D0 C ds) (T : CT prog w mg P sc' ρ x h₁ St I D0 C cenv H m ys j out d) : Gd K mg mb H := c.gd.keeps T.hk
theorem CC.turn (c : CC prog w K mg mb P A env sc sc' ρ x h₁ fp PV St I D0 C ds) (i : CI prog w mg P t f outs h₁ St I D0 C ds H m ys j out) (hd : ds[j]? = some d) (hPv : PV j v) (hst : St (j + 1) H') (hk : ∀ b o, b ∉ [I] → H.get? b = some o → H'.get? b = some o) {H'' : Heap} (hn : H''.Ns C m') (hm : m' x = some v)
    (hs : Heap.ExtBut C H' H'') : CT prog w mg P sc' ρ x h₁ St I D0 C (compEnvC sc' (closGo env sc'.names []) C env) H'' m' ys j out d := by
  have up : ∀ b o, b ≠ C → b ≠ I → H.get? b = some o → H''.get? b = some o := fun b o q z e => hs b o q (hk b o (CC.notI z) e)
  have k2 : ∀ b o, h₁.get? b = some o → H''.get? b = some o := fun b o e => have z := c.low b o e; up b o z.2.2 z.1 (i.hk b o e)
  have kP : ∀ b o, P b → h₁.get? b = some o → NP P I D0 C b := fun b o pb e => ⟨pb, c.low b o e⟩
  exact ⟨c.W.frame _ _ _ hst fun b hb o e => hs b o (fun q => c.fc (q ▸ hb)) e, i.pl.at fun o e => up _ o c.dc c.id.symm e, hn, RelL.mono (fun b o pb e => ⟨up b o pb.2.2.2 pb.2.1 e, pb⟩) i.rel, i.hol, k2,
    compEnvOK c.eo c.sc c.hx k2 kP hn hm ((c.pv j v d hPv hd).mono fun b o pb e => ⟨k2 b o e, kP b o pb e⟩)⟩
theorem CT.skip (T : CT prog w mg P sc' ρ x h₁ St I D0 C cenv H m ys j out d) (hj : j < ds.length) (km : (keepM t f (ds.drop (j + 1))).map (out ++ ·) = some outs) : CI prog w mg P t f outs h₁ St I D0 C ds H m ys (j + 1) out :=
  ⟨T.st, T.pl, T.ns, T.rel, km, hj, Nat.le_succ_of_le T.hol, T.hk⟩
theorem CT.add (c : CC prog w K mg mb P A env sc sc' ρ x h₁ fp PV St I D0 C ds) (T : CT prog w mg P sc' ρ x h₁ St I D0 C cenv H m ys j out d) (hj : j < ds.length) (km : (keepM t f (ds.drop (j + 1))).map (out ++ [d'] ++ ·) = some outs) (ry : RelV prog w mg (NP P I D0 C) H v d') (hl : H'.PlainList D0 (ys.push v)) (hs : Heap.ExtBut D0 H H') :
    CI prog w mg P t f outs h₁ St I D0 C ds H' m (ys.push v) (j + 1) (out ++ [d']) := by
  refine ⟨c.W.frame _ _ _ T.st fun b hb o e => hs b o (fun q => c.fd (q ▸ hb)) e, hl, T.ns.extBut hs c.dc.symm, ?_, km, hj, ?_, fun b o e => hs b o (c.low b o e).2.1 (T.hk b o e)⟩
  · rw [Array.toList_push]
    exact (RelL.mono (fun b o pb e => ⟨hs b o pb.2.2.1 e, pb⟩) T.rel).append (.cons (ry.mono fun b o pb e => ⟨hs b o pb.2.2.1 e, pb⟩) .nil)
  · rw [List.length_append]; exact Nat.succ_le_succ T.hol
theorem CT.size (T : CT prog w mg P sc' ρ x h₁ St I D0 C cenv H m ys j out d) (hj : j < ds.length) (hlen : ds.length ≤ 1000) : ys.size ≤ sizeLine := by
  have e1 := T.rel.length
  rw [Array.length_toList] at e1
  rw [sizeLine_eq]
  exact Nat.le_trans (e1 ▸ T.hol) (Nat.le_trans (Nat.le_of_lt hj) (Nat.le_trans hlen (by decide)))
theorem turn_lt {n j : Nat} (h : j < n) : n + 1 - (j + 1) < n + 1 - j := Nat.sub_lt_sub_left (Nat.lt_succ_of_lt h) (Nat.lt_succ_self j)
end
theorem comp_loop {use : Option (Value → Sem Unit)} {elt iter : Expr} {px p : Pos} {ifs : List Expr} {ds outs : List D} {t : D → Option Bool} {f : D → Option D} {Q : Value → Shared → Prop} {s₁ s₂ : Shared} {fp : List Addr} {PV : Nat → Value → Prop} {St : Nat → Heap → Prop} {I D0 C : Addr} {h : Heap} {tk : Nat} {m : Str → Option Value}
    (c : CC prog w K mg mb P A env sc sc' ρ x s₁.heap fp PV St I D0 C ds) (i₀ : CI prog w mg P t f outs s₁.heap St I D0 C ds h m #[] 0 []) (hlen : ds.length ≤ 1000)
    (htest : ∀ (P' : Addr → Prop) (cenv : Env) (s' : Shared) (d : D) (b : Bool) (Q' : Bool → Shared → Prop) (E' : Value → Shared → Prop), Gd K mg mb s'.heap → FreshIn P' s'.heap → EnvOK prog w mg P' cenv sc' s'.heap (put ρ (enc x) d) → t d = some b → (∀ s'', Keeps s' s'' → Q' b s'') →
      wpAny (model prog w) A (forIn ifs true fun c r => if r = true then do let ok ← isTrue c cenv (eval c cenv); pure (ForInStep.yield ok) else pure (ForInStep.yield r)) Q' E' s')
    (helt : ∀ (P' : Addr → Prop) (cenv : Env) (s' : Shared) (d d' : D) (Q' : Value → Shared → Prop) (E' : Value → Shared → Prop), Gd K mg mb s'.heap → FreshIn P' s'.heap → EnvOK prog w mg P' cenv sc' s'.heap (put ρ (enc x) d) → f d = some d' → (∀ v s'', Post prog w mg P' s' d' v s'' → Q' v s'') →
      wpAny (model prog w) A (eval elt cenv) Q' E' s')
    (k02 : Keeps s s₂) (k01 : Keeps s s₁) (FP : FreshIn P s.heap)
    (hfin : ∀ v C s' m' f, s.heap.get? C = none → s'.heap.Ns C m' → Post prog w mg (fun b => P b ∧ b ≠ C) s (.lst outs) v s' → compPost (model prog w) A E use Q v C (.ok f) s') (hCn : s.heap.get? C = none) :
    codeAny (model prog w) A (.compLoop (.ListComp elt [⟨.Name x px, iter, ifs, 0⟩] sc' p) 0 (.ref I) (.ref D0) (compEnvC sc' (closGo env sc'.names []) C env))
      (compPost (model prog w) A E use Q (.ref D0) C) { s₂ with heap := h, toks := tk } := by
  have hxk : (compEnvC sc' (closGo env sc'.names []) C env).kindOf x = some .local := lookup_relabel_local c.sc.loc
  refine codeAny_compLoop_tests (fun k s' => CL prog w mg P t f outs s₁.heap St I D0 C ds s₂ k s') ?_ (ds.length + 1) (.mk _ _ _ _ 0 [] rfl rfl i₀)
  clear i₀
  intro k s' cl
  cases cl with | mk H tk m ys j out e ek i => ?_
  subst e ek
  by_cases hlt : j < ds.length
  · refine c.W.item j _ _ _ hlt i.st fun v h₁' tk₁ hPv hst₁' hk₁ => ?_
    refine wpAny_assign_Name (wpAny_storeName_local hxk (i.ns.at' fun o e => hk₁ _ o (CC.notI c.ic.symm) e) (fun h₂ hn₂ hs₂ => ?_) (by show ((relabel sc' env).kind == .class || ((relabel sc' env).kind == .module && _)) = false; rw [show (relabel sc' env).kind = .function from c.sc.kind]; rfl))
    have hd : ds[j]? = some ds[j] := List.getElem?_eq_getElem hlt
    generalize ds[j] = d at hd
    have T := c.turn i hd hPv hst₁' hk₁ hn₂ (if_pos rfl) hs₂.extBut
    have km := i.km
    clear i hk₁ hst₁' hPv hn₂ hs₂
    apply km_step hd km <;> clear km hd
    · intro ht km
      refine htest _ _ _ d false _ _ (T.gd c) (T.fresh c) T.eo ht fun s₃ k3 => ?_
      refine hide fun Gg kg => ?_
      obtain ⟨h₃, tk₃, rfl, k3⟩ := k3
      refine kg ?_; clear kg Gg
      exact ⟨_, turn_lt hlt, .mk h₃ tk₃ _ ys (j + 1) out rfl rfl ((T.keeps c k3).skip hlt km)⟩
    · intro d' ht hf km
      refine htest _ _ _ d true _ _ (T.gd c) (T.fresh c) T.eo ht fun s₃ k3 => ?_
      refine hide fun Gg kg => ?_
      obtain ⟨h₃, tk₃, rfl, k3⟩ := k3
      refine kg ?_; clear kg Gg
      have T₃ := T.keeps c k3
      clear T k3
      refine helt _ _ _ d d' _ _ (T₃.gd c) (T₃.fresh c) T₃.eo hf fun y s₄ h₄ => ?_
      refine hide fun Gg kg => ?_
      obtain ⟨⟨h₄, tk₄, rfl, k4⟩, ry⟩ := h₄
      refine kg ?_; clear kg Gg
      have T₄ := T₃.keeps c k4
      clear T₃ k4
      refine wpAny_list_append_plain (hsz := T₄.size hlt hlen) T₄.pl fun h₅ hl₅ hs₅ => ?_
      exact ⟨_, turn_lt hlt, .mk h₅ tk₄ _ _ (j + 1) (out ++ [d']) rfl rfl (T₄.add c hlt km ry hl₅ hs₅.extBut)⟩
  · have hin : j = ds.length := Nat.le_antisymm i.hj (Nat.le_of_not_lt hlt)
    subst hin
    refine c.W.done _ _ _ i.st fun h₁' tk₁ hk₁ => ?_
    have up : ∀ b o, b ≠ I → H.get? b = some o → h₁'.get? b = some o := fun b o q e => hk₁ b o (CC.notI q) e
    have km := i.km
    rw [List.drop_length] at km
    have km : out ++ [] = outs := Option.some.inj km
    rw [List.append_nil] at km
    subst km
    refine hfin _ _ _ m _ hCn (i.ns.at' fun o e => up _ o c.ic.symm e) ⟨?_, .lst ⟨c.fr D0 ?_, c.dc⟩ (i.pl.at fun o e => up D0 o c.id.symm e).isList (RelL.mono (fun b o pb e => ⟨up b o pb.2.1 e, pb.1, pb.2.2.2⟩) i.rel)⟩
    · refine hide fun Gg kg => ?_
      obtain ⟨h, t, rfl, k⟩ := k02
      refine kg ?_; clear kg Gg
      exact ⟨h₁', tk₁, rfl, fun b o e => have e' := kp k01 b o e; up b o (c.low b o e').1 (i.hk b o e')⟩
    · cases q : s₁.heap.get? D0 with
      | none => rfl
      | some o => exact absurd rfl (c.low _ o q).2.1
theorem s_compG {use : Option (Value → Sem Unit)} {pos0 : Pos} {elt iter : Expr} {px p : Pos} {ifs : List Expr} {src : D} {ds outs : List D} {t : D → Option Bool} {f : D → Option D} {Q : Value → Shared → Prop}
    (hh : A.handled = none) (G : Gd K mg mb s.heap) (FP : FreshIn P s.heap) (EO : EnvOK prog w mg P env sc s.heap ρ) (S : CompSc sc sc' x) (hx : dec (enc x) = x)
    (hfold : ∀ y, foldedSetIterable iter env y = pure y)
    (hit : ∀ (Q' : Value → Shared → Prop), (∀ v s', Post prog w mg P s src v s' → Q' v s') → wpAny (model prog w) A (eval iter env) Q' E s)
    (e1 : itemsD src = some ds) (hlen : ds.length ≤ 1000) (e2 : keepM t f ds = some outs)
    (htest : ∀ (P' : Addr → Prop) (cenv : Env) (s' : Shared) (d : D) (b : Bool) (Q' : Bool → Shared → Prop) (E' : Value → Shared → Prop), Gd K mg mb s'.heap → FreshIn P' s'.heap → EnvOK prog w mg P' cenv sc' s'.heap (put ρ (enc x) d) → t d = some b → (∀ s'', Keeps s' s'' → Q' b s'') →
      wpAny (model prog w) A (forIn ifs true fun c r => if r = true then do let ok ← isTrue c cenv (eval c cenv); pure (ForInStep.yield ok) else pure (ForInStep.yield r)) Q' E' s')
    (helt : ∀ (P' : Addr → Prop) (cenv : Env) (s' : Shared) (d d' : D) (Q' : Value → Shared → Prop) (E' : Value → Shared → Prop), Gd K mg mb s'.heap → FreshIn P' s'.heap → EnvOK prog w mg P' cenv sc' s'.heap (put ρ (enc x) d) → f d = some d' → (∀ v s'', Post prog w mg P' s' d' v s'' → Q' v s'') →
      wpAny (model prog w) A (eval elt cenv) Q' E' s')
    (hfin : ∀ v C s' m' f, s.heap.get? C = none → s'.heap.Ns C m' → Post prog w mg (fun b => P b ∧ b ≠ C) s (.lst outs) v s' → compPost (model prog w) A E use Q v C (.ok f) s') :
    wpAny (model prog w) A (comprehension (.ListComp elt [⟨.Name x px, iter, ifs, 0⟩] sc' p) sc' env pos0 (newList []) false (eval iter env) use) Q E s := by
  have hclos : closureFor sc' env = pure (closGo env sc'.names []) := closureFor_eq fun y hy e => EO.cells y.1 (EO.cel y.1 (S.free y hy e))
  refine wpAny_comprehension_free rfl hfold hclos S.kind (fun y hy e => (S.locs y hy e).1) (hit _ fun v s₁ post => src_iter hh post.2 e1 fun it s₂ hi => ?_)
  apply hi; clear hi; intro fp PV St X
  refine wpAny_newObj_type (wpAny_newFunctionEnv S.cell (by intro y hy; simp at hy) (fun h₁ hns₁ hsb₁ => ?_) S.kind)
  dsimp only at hns₁ hsb₁ ⊢
  have hC : (s₂.heap.push { cls := .type "list", dict := none, data := .seq ([] : List Value).toArray }).objs.size = s₂.heap.objs.size + 1 := Heap.size_push ..
  have lt := X.lt
  have low : ∀ b o, s₁.heap.get? b = some o → b ≠ s₁.heap.objs.size ∧ b ≠ s₂.heap.objs.size ∧ b ≠ (s₂.heap.push { cls := .type "list", dict := none, data := .seq ([] : List Value).toArray }).objs.size := fun b o e =>
    have z := Heap.lt_size e
    ⟨Nat.ne_of_lt z, Nat.ne_of_lt (Nat.lt_trans z lt), hC ▸ Nat.ne_of_lt (Nat.lt_succ_of_lt (Nat.lt_trans z lt))⟩
  have old : ∀ b o, s₂.heap.get? b = some o → h₁.get? b = some o := fun b o e => hsb₁.extBut b o (hC ▸ Nat.ne_of_lt (Nat.lt_succ_of_lt (Heap.lt_size e))) (Heap.get?_push_of_some _ (Heap.get?_push_of_some _ e))
  have c : CC prog w K mg mb P A env sc sc' ρ x s₁.heap fp PV St s₁.heap.objs.size s₂.heap.objs.size (s₂.heap.push { cls := .type "list", dict := none, data := .seq ([] : List Value).toArray }).objs.size ds :=
    ⟨hC ▸ Nat.ne_of_lt (Nat.lt_succ_of_lt lt), Nat.ne_of_lt lt, hC ▸ Nat.ne_of_lt (Nat.lt_succ_self _), fun hm => (X.fp _ hm).elim (fun e => Nat.ne_of_lt lt e.symm) fun z => z.2.elim fun o e => (low _ o e).2.1 rfl,
      fun hm => (X.fp _ hm).elim (fun e => Nat.ne_of_lt (Nat.lt_succ_of_lt lt) (hC ▸ e).symm) fun z => z.2.elim fun o e => (low _ o e).2.2 rfl,
      X.al, X.W, X.pv, low, EO.keeps post.1, S, G.keeps (kp post.1), FP.keeps (kp post.1), hx⟩
  have i₀ : CI prog w mg P t f outs s₁.heap St s₁.heap.objs.size s₂.heap.objs.size (s₂.heap.push { cls := .type "list", dict := none, data := .seq ([] : List Value).toArray }).objs.size ds h₁ _ #[] 0 [] :=
    ⟨X.W.frame _ _ _ X.st fun b _ o e => old b o e, ⟨_, hsb₁.extBut _ _ c.dc (Heap.get?_push_of_some _ (Heap.get?_push_size _ rfl))⟩, hns₁, .nil, by rw [List.drop_zero, e2]; rfl, Nat.zero_le _, Nat.le_refl _, fun b o e => old b o (kp X.k b o e)⟩
  have k02 : Keeps s s₂ := kTr post.1 X.k
  have hCn : s.heap.get? (s₂.heap.push { cls := .type "list", dict := none, data := .seq ([] : List Value).toArray }).objs.size = none := by
    cases q : s.heap.get? _ with
    | none => rfl
    | some o => exact absurd rfl (low _ o (kp post.1 _ _ q)).2.2
  clear low old lt hsb₁ hns₁ X hC EO S G hclos
  generalize (s₂.heap.push { cls := .type "list", dict := none, data := .seq ([] : List Value).toArray }).objs.size = C at *
  have loop := comp_loop (s₂ := s₂) (elt := elt) (iter := iter) (px := px) (p := p) (ifs := ifs) (E := E) (use := use) (Q := Q) (tk := s₂.toks + ([] : List (Str × Value)).length) c i₀ hlen htest helt k02 post.1 FP hfin hCn
  exact codeAny_compStart_list loop (c.W.self 0 _ _ _ i₀.st loop)

theorem s_comp {elt iter : Expr} {px p : Pos} {ifs : List Expr} {src : D} {ds outs : List D} {t : D → Option Bool} {f : D → Option D} {Q : Value → Shared → Prop}
    (hh : A.handled = none) (G : Gd K mg mb s.heap) (FP : FreshIn P s.heap) (EO : EnvOK prog w mg P env sc s.heap ρ) (S : CompSc sc sc' x) (hx : dec (enc x) = x)
    (hfold : ∀ y, foldedSetIterable iter env y = pure y)
    (hit : ∀ (Q' : Value → Shared → Prop), (∀ v s', Post prog w mg P s src v s' → Q' v s') → wpAny (model prog w) A (eval iter env) Q' E s)
    (e1 : itemsD src = some ds) (hlen : ds.length ≤ 1000) (e2 : keepM t f ds = some outs)
    (htest : ∀ (P' : Addr → Prop) (cenv : Env) (s' : Shared) (d : D) (b : Bool) (Q' : Bool → Shared → Prop) (E' : Value → Shared → Prop), Gd K mg mb s'.heap → FreshIn P' s'.heap → EnvOK prog w mg P' cenv sc' s'.heap (put ρ (enc x) d) → t d = some b → (∀ s'', Keeps s' s'' → Q' b s'') →
      wpAny (model prog w) A (forIn ifs true fun c r => if r = true then do let ok ← isTrue c cenv (eval c cenv); pure (ForInStep.yield ok) else pure (ForInStep.yield r)) Q' E' s')
    (helt : ∀ (P' : Addr → Prop) (cenv : Env) (s' : Shared) (d d' : D) (Q' : Value → Shared → Prop) (E' : Value → Shared → Prop), Gd K mg mb s'.heap → FreshIn P' s'.heap → EnvOK prog w mg P' cenv sc' s'.heap (put ρ (enc x) d) → f d = some d' → (∀ v s'', Post prog w mg P' s' d' v s'' → Q' v s'') →
      wpAny (model prog w) A (eval elt cenv) Q' E' s')
    (hQ : ∀ v s', Post prog w mg P s (.lst outs) v s' → Q v s') :
    wpAny (model prog w) A (eval (.ListComp elt [⟨.Name x px, iter, ifs, 0⟩] sc' p) env) Q E s := by
  rw [eval_ListComp]
  refine s_compG (use := none) hh G FP EO S hx hfold hit e1 hlen e2 htest helt fun v C s' m' fl hC hn hp => ⟨m', hn, fun h' hs => hQ _ _ ⟨?_, hp.2.mono fun b o pb e => ⟨hs.extBut b o pb.2 e, pb.1⟩⟩⟩
  refine hide fun Gg kg => ?_
  obtain ⟨h₁, t₁, e₁, k₁⟩ := hp.1
  refine kg ?_; clear kg Gg
  exact ⟨h', _, by rw [e₁], fun b o e => hs.extBut b o (by rintro rfl; rw [hC] at e; cases e) (kp hp.1 b o e)⟩
end
end Mine
end

section
open PySem PySem.W PyProof.Rows PySem.Calls
set_option maxRecDepth 100000
namespace Mine

section
variable (prog : Program) (w : World) (K : Frag) (mg mb : Str → Option Value)
/-- a callee by its global name: what it hands back -/
noncomputable def CalleeOK (n f : Nat) (args : List D) (d : D) : Prop :=
  ∃ v0, GlobV mg mb (dec f) v0 ∧ (∀ h, Gd K mg mb h → ∃ k, (k = Keeper.frame ∨ k = Keeper.machine ∨ k = Keeper.boundFrame) ∧ Looks (model prog w) h (keeperOf v0) k) ∧
    ∀ (P : Addr → Prop) (A : Around) (s : Shared) (vs : List Value) (E Q : Value → Shared → Prop), AOK n A → Gd K mg mb s.heap → FreshIn P s.heap → RelL prog w mg P s.heap vs args →
      (∀ v s', Post prog w mg P s d v s' → Q v s') → wpAny (model prog w) A (call v0 vs) Q E s
noncomputable def MethOK (n m : Nat) (x : D) (ds : List D) (d : D) : Prop :=
  ∀ (P : Addr → Prop) (A : Around) (s : Shared) (ov : Value) (env : Env) (o : Expr) (apos pos : Pos) (args : List Expr) (E Q : Value → Shared → Prop), AOK n A → Gd K mg mb s.heap → FreshIn P s.heap → RelV prog w mg P s.heap ov x →
    (apos.endLine == pos.line) = true → args.length ≤ 20 → (∀ p, (backTo p (starEach args env)).any (·.1) = false) → args.length = ds.length →
    (∀ p s₁ (Q' : Args → Shared → Prop) (f : Value), Keeps s s₁ → (∀ vs s', Keeps s₁ s' → RelL prog w mg P s'.heap vs ds → Q' ⟨vs, []⟩ s') → wpAny (model prog w) A (evalArgs f true (backTo p (starEach args env)) []) Q' E s₁) →
    (∀ v s', Post prog w mg P s d v s' → Q v s') →
    wpAny (model prog w) A (methodCall o (dec m) apos pos env ov (args.length + ([] : List Keyword).length) (backTo pos (starEach args env)) (backToKw pos (keywordEach [] env))) Q E s
noncomputable def IsiOK (x : D) (c : Nat) (b : Bool) : Prop :=
  ∃ v0, GlobV mg mb (dec c) v0 ∧ ∀ (P : Addr → Prop) (A : Around) (s : Shared) (v : Value) (E Q : Value → Shared → Prop), Gd K mg mb s.heap → RelV prog w mg P s.heap v x → (∀ s', Keeps s s' → Q (.bool b) s') → wpAny (model prog w) A (call (.builtin "isinstance") [v, v0]) Q E s

structure Orc (Γ : Nat → List D → Option D) (Γm : Nat → D → List D → Option D) (isi : D → Nat → Option Bool) (kn : Nat → Bool) (fo : Nat → Nat → Bool) (n : Nat) : Prop where
  call : ∀ f ds d, Γ f ds = some d → CalleeOK prog w K mg mb n f ds d
  meth : ∀ m x ds d, Γm m x ds = some d → MethOK prog w K mg mb n m x ds d
  isi : ∀ x c b, isi x c = some b → IsiOK prog w K mg mb x c b
  isig : GlobV mg mb ("isinstance" : Str) (.builtin "isinstance")
  kn : ∀ n, kn n = true → ∃ v, mg (dec n) = some v
  fld : ∀ c C n, fo c n = true → mg (dec c) = some (.ref C) → ClsFld K C n
end

section
variable {prog : Program} {w : World} {K : Frag} {mg mb : Str → Option Value} {Γ : Nat → List D → Option D} {Γm : Nat → D → List D → Option D} {isi : D → Nat → Option Bool} {kn : Nat → Bool} {fo : Nat → Nat → Bool} {n : Nat}

theorem star_plain {sc : Scope} {l : List Expr} {ps : List PE} (r : RepL sc l ps) (env : Env) (p : Pos) : (backTo p (starEach l env)).any (·.1) = false := by
  induction r using RepL.rec (motive_1 := fun _ _ _ _ => True) with
  | nil => rfl
  | cons r rs _ ih =>
    rw [r.star]
    show (false || (backTo p (starEach _ env)).any (·.1)) = false
    rw [ih]; rfl
  | _ => trivial
theorem args_rep {M : Model} {A : Around} {E : Value → Shared → Prop} {s : Shared} {sc : Scope} {l : List Expr} {ps : List PE} {env : Env} {p : Pos} {f : Value} {Q : Args → Shared → Prop} (r : RepL sc l ps)
    (h : wpAny M A (spliced (backTo p (starEach l env))) (fun vs s' => Q ⟨vs, []⟩ s') E s) : wpAny M A (evalArgs f true (backTo p (starEach l env)) []) Q E s := by
  cases r with
  | nil =>
    unfold evalArgs
    show wpAny M A (spliced [] >>= _) Q E s
    refine wpAny_bind (wpAny_mono (show wpAny M A (spliced []) (fun vs s' => Q ⟨vs, []⟩ s') E s from h) (fun vs s' h' => ?_) fun _ _ x => x)
    refine wpAny_holding ?_
    exact wpAny_bind (wpAny_pure (wpAny_bind (wpAny_pure (wpAny_pure h'))))
  | cons r rs =>
    rw [r.star] at h ⊢
    exact Calls.evalArgs_plain h

/-- a call by a value whose keeper is known -/
theorem s_call {A : Around} {E : Value → Shared → Prop} {s : Shared} {P : Addr → Prop} {sc : Scope} {l : List Expr} {ps : List PE} {env : Env} {pos : Pos} {v0 : Value} {ds : List D} {d : D} {Q : Value → Shared → Prop} (r : RepL sc l ps) (G : Gd K mg mb s.heap) (F : FreshIn P s.heap) (hA : AOK n A)
    (hk : ∀ h, Gd K mg mb h → ∃ k, (k = Keeper.frame ∨ k = Keeper.machine ∨ k = Keeper.boundFrame) ∧ Looks (model prog w) h (keeperOf v0) k)
    (hc : ∀ (P : Addr → Prop) (A : Around) (s : Shared) (vs : List Value) (E Q : Value → Shared → Prop), AOK n A → Gd K mg mb s.heap → FreshIn P s.heap → RelL prog w mg P s.heap vs ds →
      (∀ v s', Post prog w mg P s d v s' → Q v s') → wpAny (model prog w) A (call v0 vs) Q E s)
    (hargs : ∀ (Q' : List Value → Shared → Prop), (∀ vs s', Keeps s s' → RelL prog w mg P s'.heap vs ds → Q' vs s') → wpAny (model prog w) A (spliced (backTo pos (starEach l env))) Q' E s)
    (hQ : ∀ v s', Post prog w mg P s d v s' → Q v s') : wpAny (model prog w) A (callWith pos v0 [] (backTo pos (starEach l env)) []) Q E s := by
  refine callWith_of (P := Gd K mg mb) (by rw [star_plain r]; rfl) hk (args_rep r (hargs _ fun vs s' k rl => ⟨G.keeps (kp k), ?_⟩))
  refine hc P A s' vs E Q hA (G.keeps (kp k)) (F.keeps (kp k)) rl fun v s'' p => hQ v s'' ⟨kTr k p.1, p.2⟩

section
variable (prog w K mg mb Γ Γm isi kn fo n)
noncomputable def EvalOK (sc : Scope) (e : Expr) (pe : PE) : Prop := ∀ (env : Env) (ρ : List (Nat × D)) (P : Addr → Prop) (A : Around) (s : Shared) (E Q : Value → Shared → Prop) (d : D), AOK n A → Gd K mg mb s.heap → FreshIn P s.heap → EnvOK prog w mg P env sc s.heap ρ →
  evE Γ Γm isi kn fo pe ρ = some d → (∀ v s', Post prog w mg P s d v s' → Q v s') → wpAny (model prog w) A (eval e env) Q E s
noncomputable def TrueOK (sc : Scope) (e : Expr) (pe : PE) : Prop := ∀ (env : Env) (ρ : List (Nat × D)) (P : Addr → Prop) (A : Around) (s : Shared) (E : Value → Shared → Prop) (Q : Bool → Shared → Prop) (b : Bool), AOK n A → Gd K mg mb s.heap → FreshIn P s.heap → EnvOK prog w mg P env sc s.heap ρ →
  evE Γ Γm isi kn fo pe ρ = some (.bool b) → (∀ s', Keeps s s' → Q b s') → wpAny (model prog w) A (isTrue e env (eval e env)) Q E s
noncomputable def ItemsOK (sc : Scope) (l : List Expr) (ps : List PE) : Prop := ∀ (env : Env) (ρ : List (Nat × D)) (P : Addr → Prop) (A : Around) (s : Shared) (E : Value → Shared → Prop) (Q : List Value → Shared → Prop) (ds : List D) (pos : Pos), AOK n A → Gd K mg mb s.heap → FreshIn P s.heap → EnvOK prog w mg P env sc s.heap ρ →
  evEs Γ Γm isi kn fo ps ρ = some ds → (∀ vs s', Keeps s s' → RelL prog w mg P s'.heap vs ds → Q vs s') → wpAny (model prog w) A (spliced (backTo pos (starEach l env))) Q E s
noncomputable def BoolOK (op : BoolOp) (ev : List PE → List (Nat × D) → Option Bool) (sc : Scope) (l : List Expr) (ps : List PE) : Prop := ∀ (env : Env) (ρ : List (Nat × D)) (P : Addr → Prop) (A : Around) (s : Shared) (E Q : Value → Shared → Prop) (b : Bool) (pos : Pos), AOK n A → Gd K mg mb s.heap → FreshIn P s.heap → EnvOK prog w mg P env sc s.heap ρ →
  ev ps ρ = some b → (∀ s', Keeps s s' → Q (.bool b) s') → wpAny (model prog w) A (boolOp pos op (evalEach l env)) Q E s
noncomputable def AllOK (op : BoolOp) (ev : List PE → List (Nat × D) → Option Bool) (sc : Scope) (l : List Expr) (ps : List PE) : Prop := ∀ (env : Env) (ρ : List (Nat × D)) (P : Addr → Prop) (A : Around) (s : Shared) (E : Value → Shared → Prop) (Q : Bool → Shared → Prop) (b : Bool), AOK n A → Gd K mg mb s.heap → FreshIn P s.heap → EnvOK prog w mg P env sc s.heap ρ →
  ev ps ρ = some b → (∀ s', Keeps s s' → Q b s') → wpAny (model prog w) A (allTrue op l env) Q E s
noncomputable def TestsOK (sc : Scope) (l : List Expr) (ps : List PE) : Prop := ∀ (env : Env) (ρ : List (Nat × D)) (P : Addr → Prop) (A : Around) (s : Shared) (E : Value → Shared → Prop) (Q : Bool → Shared → Prop) (b : Bool), AOK n A → Gd K mg mb s.heap → FreshIn P s.heap → EnvOK prog w mg P env sc s.heap ρ →
  evTs Γ Γm isi kn fo ps ρ = some b → (∀ s', Keeps s s' → Q b s') →
  wpAny (model prog w) A (forIn l true fun c r => if r = true then do let ok ← isTrue c env (eval c env); pure (ForInStep.yield ok) else pure (ForInStep.yield r)) Q E s
end

/-- the truth of a bool that is looked at as a value -/
theorem true_of_eval {sc : Scope} {e : Expr} {pe : PE} (h : EvalOK prog w K mg mb Γ Γm isi kn fo n sc e pe) (he : ∀ env whole, isTrue e env whole = (do let v ← whole; standAt e.pos; holding [v] (truthy v))) : TrueOK prog w K mg mb Γ Γm isi kn fo n sc e pe := by
  intro env ρ P A s E Q b hA G F EO ev hQ
  exact wpAny_isTrue_value (h env ρ P A s E _ (.bool b) hA G F EO ev fun v s' p => truth_rel p.2 (hQ s' p.1)) (he env _)
theorem tests_false {env : Env} {A : Around} {E : Value → Shared → Prop} {Q : Bool → Shared → Prop} (l : List Expr) (s : Shared) (h : Q false s) :
    wpAny (model prog w) A (forIn l false fun c r => if r = true then do let ok ← isTrue c env (eval c env); pure (ForInStep.yield ok) else pure (ForInStep.yield r)) Q E s := by
  induction l with
  | nil => rw [List.forIn_nil]; exact wpAny_pure h
  | cons c l ih =>
    rw [List.forIn_cons, if_neg Bool.false_ne_true]
    exact wpAny_bind (wpAny_pure ih)
end
end Mine
end

section
open PySem PySem.W PyProof.Rows PySem.Calls
set_option maxRecDepth 100000
namespace Mine

noncomputable def mkIs (k : MK) (v : Value) : Bool := match k with
  | .none => match v with
    | .none => true
    | _ => false
  | .int i => match v with
    | .int j _ => j == i
    | _ => false
  | .str x => match v with
    | .str y _ => y == x
    | _ => false
theorem mkIs_e {M : MK → Value → Prop} {k : MK} {v : Value} (h : mkIs k v = true) (k1 : M .none .none) (k2 : ∀ i t, M (.int i) (.int i t)) (k3 : ∀ x t, M (.str x) (.str x t)) : M k v := by
  cases k with
  | none =>
    cases v with
    | none => exact k1
    | _ => exact nf h
  | int i =>
    cases v with
    | int j t => exact beq_iff_eq.mp h ▸ k2 j t
    | _ => exact nf h
  | str x =>
    cases v with
    | str y t => exact beq_iff_eq.mp h ▸ k3 y t
    | _ => exact nf h

section
variable {prog : Program} {w : World} {A : Around} {E : Value → Shared → Prop} {s : Shared}
theorem pyHash_none {Q : Int → Shared → Prop} (h : Q (hashW w.params .none) { s with toks := s.toks + 1 }) : wpAny (model prog w) A (PySem.pyHash .none) Q E s :=
  pyHash_slot (T := "NoneType") rfl F.slot_NoneType_hash F.entry_NoneType_hash (F.args_NoneType_hash_1 _) (beq_builtin_none _) (.inl rfl) (wpAny_bind (wpAny_pure (wpAny_bind (wpAny_mkInt (wpAny_pure ⟨_, _, rfl, h⟩)))))
theorem eqBool_none {Q : Bool → Shared → Prop} (h : Q true s) : wpAny (model prog w) A (eqBool .none .none) Q E s := by
  unfold eqBool
  refine wpAny_holding ?_
  rw [if_pos (by rfl)]
  exact wpAny_bind (wpAny_rule (wpAny_pure h))
end
noncomputable def mixHash (w : World) : MK → Int
  | .none => hashW w.params .none
  | .int i => hashInt i
  | .str s => hashStr w s
theorem mk_int {i j : Int} : decide (MK.int i = MK.int j) = (i == j) := decide_eq_decide.mpr ⟨fun h => MK.int.inj h, fun h => congrArg _ h⟩
theorem mk_str {x y : Str} : decide (MK.str x = MK.str y) = decide (x = y) := decide_eq_decide.mpr ⟨fun h => MK.str.inj h, fun h => congrArg _ h⟩
/-- keys that are None, ints or texts -/
noncomputable def mixKind (prog : Program) (w : World) : KeyKind prog w MK where
  is := mkIs
  hash := mixHash w
  inj := fun v a b ha hb => mkIs_e (M := fun a v => mkIs b v = true → a = b) ha
    (fun hb => by cases b with
      | none => rfl
      | _ => exact nf hb)
    (fun i t hb => by cases b with
      | int j => exact congrArg _ (beq_iff_eq.mp hb)
      | _ => exact nf hb)
    (fun x t hb => by cases b with
      | str j => exact congrArg _ (beq_iff_eq.mp hb)
      | _ => exact nf hb) hb
  byValue := fun k v h => mkIs_e (M := fun _ v => carriedByValue v = true) h rfl (fun _ _ => rfl) fun _ _ => rfl
  pyHash := fun {A E s k v Q} hv h => mkIs_e (M := fun k v => Q (mixHash w k) { s with toks := s.toks + 1 } → wpAny (model prog w) A (PySem.pyHash v) Q E s) hv (fun h => pyHash_none h) (fun _ _ h => wpAny_pyHash_int h) (fun _ _ h => wpAny_pyHash_str h) h
  eqBool := fun {A E s a b u v Q} ha hb => mkIs_e (M := fun a u => Q (decide (a = b)) s → wpAny (model prog w) A (PySem.eqBool u v) Q E s) ha
    (mkIs_e (M := fun b v => Q (decide (MK.none = b)) s → wpAny (model prog w) A (PySem.eqBool .none v) Q E s) hb (fun h => eqBool_none h) (fun _ _ h => SeqAt.EqAt.none_int _ _ _ _ _ _ h) (fun _ _ h => SeqAt.EqAt.none_str _ _ _ _ _ _ h))
    (fun i t => mkIs_e (M := fun b v => Q (decide (MK.int i = b)) s → wpAny (model prog w) A (PySem.eqBool (.int i t) v) Q E s) hb (fun h => SeqAt.EqAt.int_none _ _ _ _ _ _ h) (fun j _ h => wpAny_eqBool_int (mk_int ▸ h)) (fun _ _ h => SeqAt.EqAt.int_str _ _ _ _ _ _ _ _ h))
    (fun x t => mkIs_e (M := fun b v => Q (decide (MK.str x = b)) s → wpAny (model prog w) A (PySem.eqBool (.str x t) v) Q E s) hb (fun h => SeqAt.EqAt.str_none _ _ _ _ _ _ h) (fun _ _ h => SeqAt.EqAt.str_int _ _ _ _ _ _ _ _ h) (fun y _ h => wpAny_eqBool_str (mk_str ▸ h)))
  «strs» := (fun k x t v h => by
    cases k with
    | str y => exact beq_iff_eq.mp h ▸ (by cases v <;> rfl)
    | _ => exact nf h)

section
variable {prog : Program} {w : World} {K : Frag} {mg mb : Str → Option Value} {P : Addr → Prop} {A : Around} {E : Value → Shared → Prop} {s : Shared} {env : Env} {κ : Type} [DecidableEq κ]

/-- the key values of a display -/
noncomputable def KeysAre : List MK → List (Value × Value) → Prop
  | [], ps => ps = []
  | k :: ks, ps => ∃ p r, p :: r = ps ∧ mkIs k p.1 = true ∧ KeysAre ks r
theorem carries_of (knd : KeyKind prog w κ) (f : MK → κ) {ks : List MK} {ps : List (Value × Value)} (hk : ∀ k ∈ ks, ∀ v, mkIs k v = true → knd.is (f k) v = true) (h : KeysAre ks ps) : Carries knd ps ((ks.map f).zip (ps.map (·.2))) := by
  induction ks generalizing ps with
  | nil => have h : ps = [] := h; subst h; exact trivial
  | cons k ks ih =>
    refine Exists.elim h fun p h => h.elim fun r h => ?_
    have e := h.1
    subst e
    exact ⟨hk k (List.mem_cons_self ..) p.1 h.2.1, rfl, ih (fun k' h' => hk k' (List.mem_cons_of_mem _ h')) h.2.2⟩
theorem KeysAre.length {ks : List MK} {ps : List (Value × Value)} (h : KeysAre ks ps) : ks.length = ps.length := by
  induction ks generalizing ps with
  | nil => have h : ps = [] := h; subst h; rfl
  | cons k ks ih =>
    refine Exists.elim h fun p h => h.elim fun r h => ?_
    exact h.1 ▸ congrArg Nat.succ (ih h.2.2)
theorem KeysAre.cons {k : MK} {ks : List MK} {p : Value × Value} {ps : List (Value × Value)} (h : mkIs k p.1 = true) (r : KeysAre ks ps) : KeysAre (k :: ks) (p :: ps) := ⟨p, ps, rfl, h, r⟩
theorem merged_nodup (more acc : List (κ × Value)) (h : ((acc ++ more).map (·.1)).Nodup) : merged acc more = acc ++ more := by
  induction more generalizing acc with
  | nil => rw [List.append_nil]; rfl
  | cons p r ih =>
    have e : stored acc p.1 p.2 = acc ++ [p] := by
      refine if_neg fun he => ?_
      rw [List.any_eq_true] at he
      refine he.elim fun x hx => ?_
      rw [List.map_append, List.nodup_append] at h
      exact h.2.2 x.1 (List.mem_map_of_mem hx.1) p.1 (List.mem_map_of_mem (List.mem_cons_self ..)) (of_decide_eq_true hx.2)
    have a : acc ++ p :: r = acc ++ [p] ++ r := (List.append_assoc acc [p] r).symm
    show merged (stored acc p.1 p.2) r = _
    rw [a] at h
    rw [e, ih _ h, a]
theorem nodup_of {α : Type} [DecidableEq α] {l : List α} (h : nodupB l = true) : l.Nodup := by
  induction l with
  | nil => exact List.nodup_nil
  | cons a r ih =>
    have h := Bool.and_eq_true_iff.mp h
    exact List.nodup_cons.mpr ⟨fun hm => nf ((Bool.not_eq_true' _ ▸ h.1).symm.trans (List.any_eq_true.mpr ⟨a, hm, decide_eq_true rfl⟩)), ih h.2⟩
theorem zip_fst {α β : Type} {l : List α} {m : List β} (h : l.length = m.length) : (l.zip m).map (·.1) = l := List.map_fst_zip (Nat.le_of_eq h)

theorem krep_eval {M : Model} {e : Expr} {k : MK} {Q : Value → Shared → Prop} (r : KRep e k) (hQ : ∀ v s', Keeps s s' → mkIs k v = true → Q v s') : wpAny M A (eval e env) Q E s := by
  cases r with
  | none => exact wpAny_Constant_none (hQ _ _ (kRfl s) rfl)
  | int => exact wpAny_Constant_int (hQ _ _ (kTk s _) (beq_self_eq_true _))
  | str => exact wpAny_Constant_str (hQ _ _ (kTk s _) (beq_self_eq_true _))
theorem KReps.isSome {ks : List (Option Expr)} {mks : List MK} (r : KReps ks mks) : ks.all (·.isSome) = true := by
  induction r with
  | nil => rfl
  | cons _ _ ih => exact ih
theorem KReps.length {ks : List (Option Expr)} {mks : List MK} (r : KReps ks mks) : ks.length = mks.length := by
  induction r with
  | nil => rfl
  | cons _ _ ih => exact congrArg Nat.succ ih
/-- the pairs of a display -/
noncomputable def PairsOK (prog : Program) (w : World) (K : Frag) (mg mb : Str → Option Value) (Γ : Nat → List D → Option D) (Γm : Nat → D → List D → Option D) (isi : D → Nat → Option Bool) (kn : Nat → Bool) (fo : Nat → Nat → Bool) (n : Nat) (sc : Scope) (l : List Expr) (ps : List PE) : Prop :=
  ∀ (env : Env) (ρ : List (Nat × D)) (P : Addr → Prop) (A : Around) (s : Shared) (E : Value → Shared → Prop) (Q : List (Value × Value) → Shared → Prop) (ds : List D) (pos : Pos) (ks : List (Option Expr)) (mks : List MK), KReps ks mks → ks.length = l.length → AOK n A → Gd K mg mb s.heap → FreshIn P s.heap → EnvOK prog w mg P env sc s.heap ρ →
  evEs Γ Γm isi kn fo ps ρ = some ds → (∀ prs s', Keeps s s' → KeysAre mks prs → RelL prog w mg P s'.heap (prs.map (·.2)) ds → Q prs s') → wpAny (model prog w) A (evalPairs (pairTrees ks l env pos)) Q E s

/-- a dict display of written keys -/
theorem s_dictG (knd : KeyKind prog w κ) (f : MK → κ) {keys : List (Option Expr)} {values : List Expr} {pos : Pos} {mks : List MK} {ds : List D} {Q : Value → Shared → Prop} (F : FreshIn P s.heap) (hall : keys.all (·.isSome) = true) (hl : keys.length = values.length) (h0 : 0 < keys.length) (hlen : keys.length ≤ 15)
    (hf : ∀ k ∈ mks, ∀ v, mkIs k v = true → knd.is (f k) v = true) (hnd : (mks.map f).Nodup)
    (hv : ∀ (Q' : List (Value × Value) → Shared → Prop), (∀ ps s', Keeps { s with heap := s.heap.push { cls := .type "dict", data := .dict #[] } } s' → KeysAre mks ps → RelL prog w mg (fun b => P b ∧ b ≠ s.heap.objs.size) s'.heap (ps.map (·.2)) ds → Q' ps s') →
      wpAny (model prog w) A (evalPairs (pairTrees keys values env pos)) Q' E { s with heap := s.heap.push { cls := .type "dict", data := .dict #[] } })
    (hQ : ∀ s' vs, Keeps s s' → s'.heap.DictOf knd s.heap.objs.size ((mks.map f).zip vs) → RelL prog w mg P s'.heap vs ds → Q (.ref s.heap.objs.size) s') : wpAny (model prog w) A (eval (.Dict keys values pos) env) Q E s := by
  have hn := pairTrees_length keys values env pos hall hl
  refine wpAny_Dict_pairs (knd := knd) (pairs := pairTrees keys values env pos) (zip_pairTrees keys values env pos hall hl) (fun he => by rw [he] at hn; simp at hn; omega) (by rw [hn]; exact hlen) (hv _ fun ps s₁ k₁ hk rl => ?_)
  have hd : s₁.heap.DictOf knd s.heap.objs.size [] := by
    have := (Heap.DictOf.new (knd := knd) s.heap)
    obtain ⟨o, es, ep, ho, r⟩ := this
    exact ⟨o, es, ep, kp k₁ _ _ ho, r⟩
  refine ⟨(mks.map f).zip (ps.map (·.2)), carries_of knd f hf hk, hd, fun h' hm hs => ?_⟩
  rw [merged_nodup _ [] (by rw [List.nil_append, zip_fst (by simp [hk.length])]; exact hnd)] at hm
  have kk : Keeps s { s₁ with heap := h', toks := s₁.toks + ps.length } := by
    obtain ⟨h₁, t₁, e₁, k₁'⟩ := k₁
    subst e₁
    refine ⟨h', _, rfl, fun b o e => hs.extBut b o (fun q => ?_) (k₁' b o (Heap.get?_push_of_some _ e))⟩
    subst q; rw [get_size] at e; exact nn e
  exact hQ _ (ps.map (·.2)) kk (by simpa using hm) (RelL.mono (fun b o p e => ⟨hs.extBut b o p.2 e, p.1⟩) rl)

theorem RelE.ofZip {xs : List Str} {vs : List Value} {ds : List D} {h : Heap} (r : RelL prog w mg P h vs ds) : RelE prog w mg P h (xs.zip vs) (xs.zip ds) := by
  induction xs generalizing vs ds with
  | nil => exact .nil
  | cons x xs ih =>
    cases ds with
    | nil => apply RelL.eNil r; exact .nil
    | cons d ds => apply RelL.eCons r; intro v vs a b; exact .cons a (ih b)
theorem strsOf_eq {ks : List MK} {xs : List Str} (h : strsOf ks = some xs) : ks = xs.map .str := by
  induction ks generalizing xs with
  | nil => exact Option.some.inj h ▸ rfl
  | cons k r ih =>
    cases k with
    | str x =>
      apply iM (show (strsOf r).map (x :: ·) = some xs from h)
      intro ys hy e
      exact e ▸ congrArg (MK.str x :: ·) (ih hy)
    | _ => exact nn h
theorem strs_map (xs : List Str) : (xs.map MK.str).map (fun k => (mkStr k).getD ⟨#[]⟩) = xs := by
  rw [List.map_map]; exact List.map_id _
theorem notSys {h : Heap} (G : Gd K mg mb h) : ((h.objs.size : Addr) == sysModules) = false := by
  have := G.g.lt
  refine beq_eq_false_iff_ne.mpr fun e => ?_
  rw [e] at this
  exact absurd this (by decide)

theorem s_dictS {sc : Scope} {ρ : List (Nat × D)} {keys : List (Option Expr)} {values : List Expr} {pos : Pos} {mks : List MK} {xs : List Str} {ds : List D} {Q : Value → Shared → Prop} (G : Gd K mg mb s.heap) (F : FreshIn P s.heap) (hk : KReps keys mks) (hnd : nodupB mks = true) (hlen : keys.length ≤ 15) (hl : keys.length = values.length) (hxs : strsOf mks = some xs)
    (hv : ∀ (P' : Addr → Prop) (s₀ : Shared) (Q' : List (Value × Value) → Shared → Prop), Keeps s s₀ → FreshIn P' s₀.heap → EnvOK prog w mg P' env sc s₀.heap ρ → (∀ prs s', Keeps s₀ s' → KeysAre mks prs → RelL prog w mg P' s'.heap (prs.map (·.2)) ds → Q' prs s') → wpAny (model prog w) A (evalPairs (pairTrees keys values env pos)) Q' E s₀)
    (hdl : values.length = ds.length) (EO : EnvOK prog w mg P env sc s.heap ρ) (hQ : ∀ v s', Post prog w mg P s (.dct (xs.zip ds)) v s' → Q v s') : wpAny (model prog w) A (eval (.Dict keys values pos) env) Q E s := by
  have em := strsOf_eq hxs
  subst em
  clear hxs
  have fr : ∀ b o, s.heap.get? b = some o → b ≠ s.heap.objs.size := fun b o e q => nn ((get_size s.heap).symm.trans (q ▸ e))
  by_cases h0 : 0 < keys.length
  · have kpush := kPush s { cls := .type "dict", data := .dict #[] } s.toks
    refine s_dictG (prog := prog) (w := w) (mg := mg) (P := P) (PySem.strKind prog w) (fun k => (mkStr k).getD ⟨#[]⟩) F hk.isSome hl h0 hlen (fun k hm v hv => ?_) ?_ (fun Q' h => hv (fun b => P b ∧ b ≠ s.heap.objs.size) _ Q' kpush (fun b e => ⟨(F.keeps (kp kpush)) b e, fun q => ?_⟩) ?_ h) fun s' vs k hd rl => ?_
    · refine (List.mem_map.mp hm).elim fun x hx => ?_
      have e := hx.2
      subst e
      cases v with
      | str y t => exact hv
      | _ => exact nf hv
    · rw [strs_map]
      exact List.Pairwise.of_map MK.str (fun a b h e => h (congrArg _ e)) (nodup_of hnd)
    · exact ns ((Heap.get?_push_size _ rfl).symm.trans (q ▸ e))
    · exact EO.mono (kp kpush) fun b o p e => ⟨p, fr b o e⟩
    · rw [strs_map] at hd
      exact hQ _ _ ⟨k, .dct F.size (notSys G) hd (RelE.ofZip rl)⟩
  · have hk0 : keys = [] := List.eq_nil_of_length_eq_zero (Nat.eq_zero_of_not_pos h0)
    subst hk0
    have hv0 : values = [] := List.eq_nil_of_length_eq_zero hl.symm
    subst hv0
    have hx0 : xs = [] := List.map_eq_nil_iff.mp (List.eq_nil_of_length_eq_zero hk.length.symm)
    subst hx0
    exact wpAny_Dict_empty (hQ _ _ ⟨kPush s _ s.toks, .dct F.size (notSys G) (Heap.DictOf.new s.heap) .nil⟩)

theorem va_eq {r : List (κ × Value)} {k m : κ} {v : Value} (q : k = m) : valueAt ((k, v) :: r) m = some v := by
  unfold valueAt; rw [List.find?_cons_of_pos (p := fun kv : κ × Value => decide (kv.1 = m)) (decide_eq_true q)]; rfl
theorem va_ne {r : List (κ × Value)} {k m : κ} {v : Value} (q : ¬ k = m) : valueAt ((k, v) :: r) m = valueAt r m := by
  unfold valueAt; rw [List.find?_cons_of_neg (p := fun kv : κ × Value => decide (kv.1 = m)) (fun h => q (of_decide_eq_true h))]
theorem valueAt_getM {ks : List MK} {vs : List Value} {ds : List D} {h : Heap} (r : RelL prog w mg P h vs ds) (m : MK) : (∀ d, getM ks ds m = some d → ∃ v, valueAt (ks.zip vs) m = some v ∧ RelV prog w mg P h v d) ∧ (getM ks ds m = none → valueAt (ks.zip vs) m = none) := by
  induction ks generalizing vs ds with
  | nil => exact ⟨fun _ e => nn e, fun _ => rfl⟩
  | cons k ks ih =>
    cases ds with
    | nil => apply RelL.eNil r; exact ⟨fun _ e => nn e, fun _ => rfl⟩
    | cons d ds =>
      apply RelL.eCons r; intro v vs a b
      have H := ih b
      by_cases q : k = m
      · exact ⟨fun d' e => ⟨v, va_eq q, Option.some.inj ((if_pos q).symm.trans e) ▸ a⟩, fun e => ns ((if_pos q).symm.trans e)⟩
      · exact ⟨fun d' e => (H.1 d' ((if_neg q).symm.trans e)).elim fun u hu => ⟨u, (va_ne q).trans hu.1, hu.2⟩, fun e => (va_ne q).trans (H.2 ((if_neg q).symm.trans e))⟩
theorem mkOf_is {h : Heap} {v : Value} {d : D} {m : MK} (r : RelV prog w mg P h v d) (e : mkOf d = some m) : mkIs m v = true := by
  exact RelV.casesOn (motive_1 := fun v d _ => mkOf d = some m → mkIs m v = true) r (fun e => Option.some.inj e ▸ rfl) (fun _ e => nn e) (fun i _ e => Option.some.inj e ▸ beq_self_eq_true i) (fun x _ e => Option.some.inj e ▸ beq_self_eq_true x) (fun _ _ _ _ e => nn e) (fun _ _ _ e => nn e) (fun _ _ e => nn e) (fun _ _ _ _ _ _ _ e => nn e) (fun _ _ _ _ e => nn e) (fun _ e => nn e) e

/-- a method's call, the receiver at hand -/
theorem s_methodCall {o : Expr} {name : Str} {apos pos : Pos} {ov : Value} {n : Nat} {args : List (Bool × Sem Value)} {Q : Value → Shared → Prop} (hline : (apos.endLine == pos.line) = true) (hn : n ≤ 20) (hp : args.any (·.1) = false)
    (h : ∀ pl, wpAny (model prog w) A (getMethod ov name pl) (fun fx s₂ => wpAny (model prog w) A (callWith pos fx.1 fx.2 args []) Q E s₂) E s) :
    wpAny (model prog w) A (methodCall o name apos pos env ov n args []) Q E s := by
  have hf : methodCallForm n args [] = true := by
    have : args.all (!·.1) = true := List.all_eq_true.mpr fun x hx => (Bool.not_eq_true' _).mpr (Bool.eq_false_iff.mpr (List.any_eq_false.mp hp x hx))
    unfold methodCallForm
    rw [this]
    simp
    omega
  unfold methodCall
  rw [hf]
  refine wpAny_bind (wpAny_holding ?_)
  unfold calleeOf
  rw [if_pos rfl]
  refine wpAny_mono (h _) (fun fx s₂ h₂ => ?_) fun _ _ z => z
  obtain ⟨f, first⟩ := fx
  unfold methodCallPos
  refine wpAny_bind ?_
  rw [hline]
  exact wpAny_pure h₂

end
end Mine
end

section
open PySem PySem.W PyProof.Rows PySem.Calls
set_option maxRecDepth 100000
namespace Mine
section
variable {prog : Program} {w : World} {K : Frag} {mg mb : Str → Option Value} {Γ : Nat → List D → Option D} {Γm : Nat → D → List D → Option D} {isi : D → Nat → Option Bool} {kn : Nat → Bool} {fo : Nat → Nat → Bool} {n : Nat}

theorem Post.tr {P : Addr → Prop} {s s' s'' : Shared} {d : D} {v : Value} (k : Keeps s s') (p : Post prog w mg P s' d v s'') : Post prog w mg P s d v s'' := ⟨kTr k p.1, p.2⟩
theorem isGlob_look {sc : Scope} {x : Str} (h : isGlob sc x = true) : sc.names.lookup x = some .globalImplicit := by
  unfold isGlob at h
  cases e : sc.names.lookup x with
  | none => rw [e] at h; exact nf h
  | some k =>
    rw [e] at h
    cases k <;> first | rfl | exact nf h
theorem attrNode {value : Expr} {attr : Str} {pos : Pos} {env : Env} (h : notCall value = true) : eval (.Attribute value attr pos) env = (do
      let o ← eval value env
      standAt pos.atName
      let r ← holding [o] (getAttr o attr true)
      letTemporaryGo value o r
      pure r) := by
  cases value <;> first | (with_unfolding_all rfl) | cases h
theorem both {sc : Scope} {e : Expr} {pe : PE} (h : EvalOK prog w K mg mb Γ Γm isi kn fo n sc e pe) (he : ∀ env whole, isTrue e env whole = (do let v ← whole; standAt e.pos; holding [v] (truthy v))) : EvalOK prog w K mg mb Γ Γm isi kn fo n sc e pe ∧ TrueOK prog w K mg mb Γ Γm isi kn fo n sc e pe := ⟨h, true_of_eval h he⟩
theorem slice_post {x : Str} {t u : Tok} {k : Int} {s : Shared} {Q : Value → Shared → Prop} (hl : (StrLaws.sliceText x none (some k)).length ≤ 1000) (h : ∀ tk tk', Q (.str (StrLaws.sliceText x none (some k)) tk) { s with toks := tk' }) :
    (sliceMade x t none (some (k, u)) none).post Q s := by
  unfold sliceMade
  unfold StrLaws.sliceText at h hl
  simp only [slicePicked, Option.map_none, Option.map_some, Option.getD_none] at h hl ⊢
  split at h
  · rename_i q
    simp only [q, if_true] at hl ⊢
    exact h t s.toks
  · rename_i q
    simp only [q] at hl ⊢
    exact ⟨Nat.le_trans hl (by rw [sizeLine_eq]; omega), h _ _⟩

theorem RelL.take {P : Addr → Prop} {h : Heap} {vs : List Value} {ds : List D} (r : RelL prog w mg P h vs ds) (n : Nat) : RelL prog w mg P h (vs.take n) (ds.take n) := by
  induction ds generalizing vs n with
  | nil => apply RelL.eNil r; cases n <;> exact .nil
  | cons d ds ih =>
    apply RelL.eCons r
    intro v vs a b
    cases n with
    | zero => exact .nil
    | succ n => exact .cons a (ih b n)
theorem RelL.drop {P : Addr → Prop} {h : Heap} {vs : List Value} {ds : List D} (r : RelL prog w mg P h vs ds) (n : Nat) : RelL prog w mg P h (vs.drop n) (ds.drop n) := by
  induction ds generalizing vs n with
  | nil => apply RelL.eNil r; cases n <;> exact .nil
  | cons d ds ih =>
    apply RelL.eCons r
    intro v vs a b
    cases n with
    | zero => exact .cons a b
    | succ n => exact ih b n
theorem cutPost {P : Addr → Prop} {s₀ s : Shared} {vs : List Value} {ds : List D} (F : FreshIn P s.heap) (k : Keeps s₀ s) (r : RelL prog w mg P s.heap vs ds) (o : Obj) (t : Nat) :
    Post prog w mg P s₀ (.lst ds) (.ref (s.heap.objs.size + 1)) { s with heap := (s.heap.push o).push { cls := .type "list", data := .seq vs.toArray }, toks := t } := by
  have k2 : Keeps s { s with heap := (s.heap.push o).push { cls := .type "list", data := .seq vs.toArray }, toks := t } := ⟨_, t, rfl, fun _ _ e => Heap.get?_push_of_some _ (Heap.get?_push_of_some _ e)⟩
  refine ⟨kTr k k2, .lst ?_ ?_ (r.keeps k2)⟩
  · refine F _ ?_
    cases q : s.heap.get? (s.heap.objs.size + 1) with
    | none => rfl
    | some o => exact absurd (Heap.lt_size q) (Nat.not_lt.mpr (Nat.le_succ _))
  · have e : (s.heap.push o).objs.size = s.heap.objs.size + 1 := Heap.size_push ..
    rw [← e]
    exact ⟨_, Heap.get?_push_size _ rfl, rfl, _, rfl⟩

noncomputable def GE (prog : Program) (w : World) (K : Frag) (mg mb : Str → Option Value) (Γ : Nat → List D → Option D) (Γm : Nat → D → List D → Option D) (isi : D → Nat → Option Bool) (kn : Nat → Bool) (fo : Nat → Nat → Bool) (n : Nat) (sc : Scope) (e : Expr) (pe : PE) : Prop :=
  EvalOK prog w K mg mb Γ Γm isi kn fo n sc e pe ∧ TrueOK prog w K mg mb Γ Γm isi kn fo n sc e pe
noncomputable def GL (prog : Program) (w : World) (K : Frag) (mg mb : Str → Option Value) (Γ : Nat → List D → Option D) (Γm : Nat → D → List D → Option D) (isi : D → Nat → Option Bool) (kn : Nat → Bool) (fo : Nat → Nat → Bool) (n : Nat) (sc : Scope) (l : List Expr) (ps : List PE) : Prop :=
  ItemsOK prog w K mg mb Γ Γm isi kn fo n sc l ps ∧ BoolOK prog w K mg mb n .And (evAnd Γ Γm isi kn fo) sc l ps ∧ BoolOK prog w K mg mb n .Or (evOr Γ Γm isi kn fo) sc l ps ∧
    AllOK prog w K mg mb n .And (evAnd Γ Γm isi kn fo) sc l ps ∧ AllOK prog w K mg mb n .Or (evOr Γ Γm isi kn fo) sc l ps ∧ TestsOK prog w K mg mb Γ Γm isi kn fo n sc l ps ∧ PairsOK prog w K mg mb Γ Γm isi kn fo n sc l ps
set_option linter.unusedSectionVars false
variable (O : Orc prog w K mg mb Γ Γm isi kn fo n)
include O
theorem m_none {sc k p}   : GE prog w K mg mb Γ Γm isi kn fo n sc (.Constant .none k p) .none := by
  refine both (fun env ρ P A s E Q d hA G F EO ev hQ => ?_) fun _ _ => rfl
  have ev := Option.some.inj ev; subst ev
  exact wpAny_Constant_none (hQ _ _ ⟨kRfl s, .none⟩)
theorem m_bool {sc b k p}   : GE prog w K mg mb Γ Γm isi kn fo n sc (.Constant (.bool b) k p) (.bool b) := by
  refine both (fun env ρ P A s E Q d hA G F EO ev hQ => ?_) fun _ _ => rfl
  have ev := Option.some.inj ev; subst ev
  exact wpAny_Constant_bool (hQ _ _ ⟨kRfl s, .bool _⟩)
theorem m_int {sc i k p}   : GE prog w K mg mb Γ Γm isi kn fo n sc (.Constant (.int i) k p) (.int i) := by
  refine both (fun env ρ P A s E Q d hA G F EO ev hQ => ?_) fun _ _ => rfl
  have ev := Option.some.inj ev; subst ev
  exact wpAny_Constant_int (hQ _ _ ⟨kTk s _, .int _ _⟩)
theorem m_str {sc s k p}   : GE prog w K mg mb Γ Γm isi kn fo n sc (.Constant (.str s) k p) (.str s) := by
  refine both (fun env ρ P A s E Q d hA G F EO ev hQ => ?_) fun _ _ => rfl
  have ev := Option.some.inj ev; subst ev
  exact wpAny_Constant_str (hQ _ _ ⟨kTk s _, .str _ _⟩)
theorem m_var {sc x nq p} (hv : isVar sc x = true) (hn : nmOk x nq = true) (hok : nameOk x = true)  : GE prog w K mg mb Γ Γm isi kn fo n sc (.Name x p) (.var nq) := by
  refine both (fun env ρ P A s E Q d hA G F EO ev hQ => ?_) fun _ _ => rfl
  refine hide fun Gg kg => ?_
  obtain ⟨v, a, r⟩ := EO.var _ d hv (by rw [(nmOk.e hn), (nmOk.d hn)]) (by rw [(nmOk.e hn)]; exact ev)
  refine kg ?_; clear kg Gg
  exact s_var EO.kind a hok (hQ _ _ ⟨kRfl s, r⟩)
theorem m_glob {sc x nq p} (hg : isGlob sc x = true) (hn : nmOk x nq = true) (hok : nameOk x = true)  : GE prog w K mg mb Γ Γm isi kn fo n sc (.Name x p) (.glob nq) := by
  refine both (fun env ρ P A s E Q d hA G F EO ev hQ => ?_) fun _ _ => rfl
  apply iB ev; clear ev; intro hk ev
  have ev := Option.some.inj ev; subst ev
  obtain ⟨v, hv⟩ := O.kn _ hk
  exact s_glob G EO.kind EO.glob EO.blt (EO.globs _ (isGlob_look hg)) (.inl ((nmOk.d hn) ▸ hv)) hok (hQ _ _ ⟨kRfl s, .top hv⟩)
theorem m_tup {sc l ps k p} (r : RepL sc l ps) (i_r : GL prog w K mg mb Γ Γm isi kn fo n sc l ps) : GE prog w K mg mb Γ Γm isi kn fo n sc (.Tuple l k p) (.tup ps) := by
  refine both (fun env ρ P A s E Q d hA G F EO ev hQ => ?_) fun _ _ => rfl
  apply iL ev; clear ev; intro ds he ev
  apply iB ev; clear ev; intro hl ev
  have ev := Option.some.inj ev; subst ev
  refine wpAny_Tuple (i_r.1 env ρ P A s E _ ds _ hA G F EO he fun vs s' k rl => ⟨?_, hQ _ _ (.tr k (newTup (F.keeps (kp k)) rl s'.toks))⟩)
  have := Nat.le_of_ble_eq_true hl
  rw [rl.length, sizeLine_eq]; omega
theorem m_lst {sc l ps p} (r : RepL sc l ps) (i_r : GL prog w K mg mb Γ Γm isi kn fo n sc l ps) : GE prog w K mg mb Γ Γm isi kn fo n sc (.List l p) (.lst ps) := by
  refine both (fun env ρ P A s E Q d hA G F EO ev hQ => ?_) fun _ _ => rfl
  apply iL ev; clear ev; intro ds he ev
  apply iB ev; clear ev; intro hl ev
  have ev := Option.some.inj ev; subst ev
  refine wpAny_List (i_r.1 env ρ P A s E _ ds _ hA G F EO he fun vs s' k rl => ⟨?_, hQ _ _ (.tr k (newLst (F.keeps (kp k)) rl s'.toks))⟩)
  have := Nat.le_of_ble_eq_true hl
  rw [rl.length, sizeLine_eq]; omega
theorem m_item {sc a i pa pi p} (ra : Rep sc a pa) (ri : Rep sc i pi) (i_ra : GE prog w K mg mb Γ Γm isi kn fo n sc a pa) (i_ri : GE prog w K mg mb Γ Γm isi kn fo n sc i pi) : GE prog w K mg mb Γ Γm isi kn fo n sc (.Subscript a i p) (.item pa pi) := by
  refine both (fun env ρ P A s E Q d hA G F EO ev hQ => ?_) fun _ _ => rfl
  apply iD ev; clear ev; intro x hx ev
  apply iD ev; clear ev; intro y hy ev
  · refine Subscript_ (i_ra.1 env ρ P A s E _ x hA G F EO hx fun u s₁ p₁ => i_ri.1 env ρ P A s₁ E _ y hA (G.keeps (kp p₁.1)) (F.keeps (kp p₁.1)) (EO.keeps p₁.1) hy fun v s₂ p₂ =>
      s_item ev (p₁.2.keeps p₂.1) p₂.2 (ri.subs u v) fun v s₃ p₃ => hQ v s₃ (.tr (kTr p₁.1 p₂.1) p₃))
theorem m_upto {sc x p0 pa i0 k0 pp0 q p'} (ra : Rep sc (.Name x p0) pa) (i_ra : GE prog w K mg mb Γ Γm isi kn fo n sc (.Name x p0) pa) : GE prog w K mg mb Γ Γm isi kn fo n sc (.Subscript (.Name x p0) (.Slice none (some (.Constant (.int i0) k0 pp0)) none q) p') (.upto pa i0) := by
  refine both (fun env ρ P A s E Q d hA G F EO ev hQ => ?_) fun _ _ => rfl
  apply iD ev; clear ev; intro x hx ev
  cases x with
  | str z =>
    · apply iB ev; clear ev; intro hl ev
      have ev := Option.some.inj ev; subst ev
      refine wpAny_Subscript_str_slice (i_ra.1 env ρ P A s E _ _ hA G F EO hx fun u s₁ p₁ => ?_)
      obtain ⟨k₁, r₁⟩ := p₁
      apply RelV.eStr r₁; clear r₁; intro t
      refine wpAny_pure ?_
      refine wpAny_Constant_int (k := k0) (pos := pp0) ?_
      refine ⟨z, t, none, some (_, _), rfl, rfl, rfl, slice_post (Nat.le_of_ble_eq_true hl) fun tk tk' => hQ _ _ ⟨kTr k₁ ⟨_, _, rfl, fun _ _ e => Heap.get?_push_of_some _ e⟩, .str _ _⟩⟩
  | lst l =>
    cases i0 with
    | ofNat n0 =>
      apply iB ev; clear ev; intro hl ev
      have ev := Option.some.inj ev; subst ev
      refine wpAny_Subscript_list_slice (i_ra.1 env ρ P A s E _ _ hA G F EO hx fun u s₁ p₁ => ?_)
      obtain ⟨k₁, r₁⟩ := p₁
      apply RelV.eLst r₁; clear r₁; intro _ _ hp hll rl
      rename_i a vs
      refine wpAny_pure ?_
      refine wpAny_Constant_int (k := k0) (pos := pp0) ?_
      have hlen := Nat.le_of_ble_eq_true hl
      refine ⟨a, vs.toArray, none, some (Int.ofNat n0), rfl, hll, by rw [List.size_toArray, rl.length, sizeLine_eq]; omega, .none, .int _ _, ?_⟩
      rw [show (Int.ofNat n0) = ((n0 : Nat) : Int) from rfl, slicePick_upto']
      refine hQ _ _ ?_
      exact cutPost (F.keeps (kp k₁)) k₁ (rl.take n0) _ _
    | _ => exact nn ev
  | _ => exact nn ev
theorem m_attr {sc a pa x nq p} (ra : Rep sc a pa) (hnc : notCall a = true) (hn : nmOk x nq = true) (i_ra : GE prog w K mg mb Γ Γm isi kn fo n sc a pa) : GE prog w K mg mb Γ Γm isi kn fo n sc (.Attribute a x p) (.attr pa nq) := by
  refine both (fun env ρ P A s E Q d hA G F EO ev hQ => ?_) fun _ _ => rfl
  apply iD ev; clear ev; intro x hx ev
  cases x with
  | inst c fs =>
    apply iB ev; clear ev; intro hfo ev
    apply iD ev; clear ev; intro d' hl ev
    apply iB ev; clear ev; intro ht ev
    have ev := Option.some.inj ev; subst ev
    refine Attribute_any_ (i_ra.1 env ρ P A s E _ _ hA G F EO hx fun u s₁ p₁ => ?_) ?_
    · obtain ⟨k₁, r₁⟩ := p₁
      apply RelV.eInst r₁; clear r₁; intro _ _ _ _ _ h1 h2 h3 h4 I rf on
      refine hide fun Gg kg => ?_
      obtain ⟨v, hv, rv⟩ := rf.get hl
      refine kg ?_; clear kg Gg
      rw [← (nmOk.d hn)]
      exact s_attr (G.keeps (kp k₁)) (O.fld _ _ _ hfo h4) I hv (handed_rel rv ht) fun tk => hQ _ _ ⟨kTr k₁ (kTk s₁ tk), rv.keeps (kTk s₁ tk)⟩
    · exact attrNode hnc
  | _ => exact nn ev
theorem m_call {sc f nq p l ps q} (hg : isGlob sc f = true) (hn : nmOk f nq = true) (hok : nameOk f = true) (hlen : l.length ≤ 20) (r : RepL sc l ps) (i_r : GL prog w K mg mb Γ Γm isi kn fo n sc l ps) : GE prog w K mg mb Γ Γm isi kn fo n sc (.Call (.Name f p) l [] q) (.call nq ps) := by
  refine both (fun env ρ P A s E Q d hA G F EO ev hQ => ?_) fun _ _ => rfl
  apply iL ev; clear ev; intro ds he ev
  refine hide fun Gg kg => ?_
  obtain ⟨v0, hgl, hk, hc⟩ := O.call _ _ _ ev
  refine kg ?_; clear kg Gg
  refine wpAny_Call_ofName (s_glob G EO.kind EO.glob EO.blt (EO.globs _ (isGlob_look hg)) ((nmOk.d hn) ▸ hgl) hok ?_)
  exact s_call r G F hA hk hc (fun Q' h => i_r.1 env ρ P A s E Q' ds _ hA G F EO he h) hQ
theorem m_callv {sc o m ap l' q' pf l ps q} (rf : Rep sc (.Call (.Attribute o m ap) l' [] q') pf) (hlen : l.length ≤ 20) (r : RepL sc l ps) (i_rf : GE prog w K mg mb Γ Γm isi kn fo n sc (.Call (.Attribute o m ap) l' [] q') pf) (i_r : GL prog w K mg mb Γ Γm isi kn fo n sc l ps) : GE prog w K mg mb Γ Γm isi kn fo n sc (.Call (.Call (.Attribute o m ap) l' [] q') l [] q) (.callv pf ps) := by
  refine both (fun env ρ P A s E Q d hA G F EO ev hQ => ?_) fun _ _ => rfl
  apply iTp ev; clear ev; intro g hg ev
  apply iL ev; clear ev; intro ds he ev
  refine hide fun Gg kg => ?_
  obtain ⟨v0, hgl, hk, hc⟩ := O.call _ _ _ ev
  refine kg ?_; clear kg Gg
  show wpAny (model prog w) A (eval _ env >>= fun f => callWith _ f [] (backTo _ (starEach _ env)) (backToKw _ (keywordEach [] env))) Q E s
  refine wpAny_bind (i_rf.1 env ρ P A s E _ _ hA G F EO hg fun u s₁ p₁ => ?_)
  obtain ⟨k₁, r₁⟩ := p₁
  apply RelV.eTop r₁; clear r₁; intro hm
  have : u = v0 := by
    rcases hgl with q | ⟨q, _⟩ <;> rw [hm] at q <;> cases q; rfl
  subst this
  exact s_call r (G.keeps (kp k₁)) (F.keeps (kp k₁)) hA hk hc (fun Q' h => i_r.1 env ρ P A s₁ E Q' ds _ hA (G.keeps (kp k₁)) (F.keeps (kp k₁)) (EO.keeps k₁) he h) fun v s' p => hQ v s' (.tr k₁ p)
theorem m_isinst {sc p a pa c nq p' q} (hg : isGlob sc ("isinstance" : Str) = true) (hgc : isGlob sc c = true) (hn : nmOk c nq = true) (hok : nameOk c = true) (ra : Rep sc a pa) (i_ra : GE prog w K mg mb Γ Γm isi kn fo n sc a pa) : GE prog w K mg mb Γ Γm isi kn fo n sc (.Call (.Name ("isinstance" : Str) p) [a, .Name c p'] [] q) (.isinst pa nq) := by
  refine both (fun env ρ P A s E Q d hA G F EO ev hQ => ?_) fun _ _ => rfl
  apply iD ev; clear ev; intro x hx ev
  refine hide fun Gg kg => ?_
  obtain ⟨b, hb, rfl⟩ := Option.map_eq_some_iff.mp ev
  obtain ⟨v0, hgl, hc⟩ := O.isi _ _ _ hb
  refine kg ?_; clear kg Gg
  refine wpAny_Call_ofName (s_glob G EO.kind EO.glob EO.blt (EO.globs _ (isGlob_look hg)) O.isig (by decide) ?_)
  rw [ra.star]
  refine Calls.callWith_builtin (by rfl) (Calls.evalArgs_plain (Calls.spliced_cons (i_ra.1 env ρ P A s E _ _ hA G F EO hx fun u s₁ p₁ => Calls.spliced_cons (s_glob (G.keeps (kp p₁.1)) EO.kind EO.glob EO.blt (EO.globs _ (isGlob_look hgc)) ((nmOk.d hn) ▸ hgl) hok (Calls.spliced_nil ?_)))))
  exact hc P A s₁ u E Q (G.keeps (kp p₁.1)) p₁.2 fun s' k => hQ _ _ ⟨kTr p₁.1 k, .bool _⟩
theorem m_meth {sc o po m nq ap l ps q} (ro : Rep sc o po) (hnc : notCall o = true) (hn : nmOk m nq = true) (hline : (ap.endLine == q.line) = true) (hlen : l.length ≤ 20) (r : RepL sc l ps) (i_ro : GE prog w K mg mb Γ Γm isi kn fo n sc o po) (i_r : GL prog w K mg mb Γ Γm isi kn fo n sc l ps) : GE prog w K mg mb Γ Γm isi kn fo n sc (.Call (.Attribute o m ap) l [] q) (.meth po nq ps) := by
  refine both (fun env ρ P A s E Q d hA G F EO ev hQ => ?_) fun _ _ => rfl
  apply iD ev; clear ev; intro x hx ev
  apply iL ev; clear ev; intro ds he ev
  rw [arm_eval_Call, attrBase hnc]
  refine wpAny_bind (i_ro.1 env ρ P A s E _ _ hA G F EO hx fun u s₁ p₁ => wpAny_bind (wpAny_standAt ?_))
  have hm := O.meth _ _ _ _ ev
  rw [← (nmOk.d hn)]
  refine hm P A s₁ u env _ _ _ _ E Q hA (G.keeps (kp p₁.1)) (F.keeps (kp p₁.1)) p₁.2 hline hlen (fun p => star_plain r env p) ?_ (fun p s₂ Q' f k₂ h => ?_) fun v s' p => hQ v s' (.tr p₁.1 p)
  · have e := evEs_length he
    rw [r.length, e]
  · have k := kTr p₁.1 k₂
    exact args_rep r (i_r.1 env ρ P A s₂ E _ ds p hA (G.keeps (kp k)) (F.keeps (kp k)) (EO.keeps k) he h)
theorem m_cmp {sc a pa op b pb p} (ra : Rep sc a pa) (rb : Rep sc b pb) (i_ra : GE prog w K mg mb Γ Γm isi kn fo n sc a pa) (i_rb : GE prog w K mg mb Γ Γm isi kn fo n sc b pb) : GE prog w K mg mb Γ Γm isi kn fo n sc (.Compare a [op] [b] p) (.cmp op pa pb) := by
  have hu : ∀ {A : Around}, AOK n A → A.units + 66 < cLine := fun h => by have := h.2.2; omega
  refine ⟨fun env ρ P A s E Q d hA G F EO ev hQ => ?_, fun env ρ P A s E Q b hA G F EO ev hQ => ?_⟩
  · apply iD ev; clear ev; intro x hx ev
    apply iD ev; clear ev; intro y hy ev
    apply iM ev; clear ev; intro b hb ev; subst ev
    exact wpAny_Compare1 (i_ra.1 env ρ P A s E _ x hA G F EO hx fun u s₁ p₁ => i_rb.1 env ρ P A s₁ E _ y hA (G.keeps (kp p₁.1)) (F.keeps (kp p₁.1)) (EO.keeps p₁.1) hy fun v s₂ p₂ =>
      s_cmp hb (p₁.2.keeps p₂.1) p₂.2 (hu hA) fun tk => hQ _ _ ⟨kTr (kTr p₁.1 p₂.1) (kTk s₂ tk), .bool _⟩) (rb.marks _)
  · apply iD ev; clear ev; intro x hx ev
    apply iD ev; clear ev; intro y hy ev
    apply iM ev; clear ev; intro b' hb hbb
    cases hbb
    exact wpAny_isTrue_Compare1 (i_ra.1 env ρ P A s E _ x hA G F EO hx fun u s₁ p₁ => i_rb.1 env ρ P A s₁ E _ y hA (G.keeps (kp p₁.1)) (F.keeps (kp p₁.1)) (EO.keeps p₁.1) hy fun v s₂ p₂ =>
      s_cmp hb (p₁.2.keeps p₂.1) p₂.2 (hu hA) fun tk => wpAny_truthy_bool (hQ _ (kTr (kTr p₁.1 p₂.1) (kTk s₂ tk)))) (rb.marks _)
theorem m_not {sc a pa p} (ra : Rep sc a pa) (i_ra : GE prog w K mg mb Γ Γm isi kn fo n sc a pa) : GE prog w K mg mb Γ Γm isi kn fo n sc (.UnaryOp .Not a p) (.not pa) := by
  refine ⟨fun env ρ P A s E Q d hA G F EO ev hQ => ?_, fun env ρ P A s E Q b hA G F EO ev hQ => ?_⟩
  · apply iBo ev; clear ev; intro b hx ev
    have ev := Option.some.inj ev; subst ev
    exact wpAny_UnaryOp (i_ra.1 env ρ P A s E _ _ hA G F EO hx fun u s₁ p₁ => not_value (truth_rel p₁.2 (hQ _ _ ⟨p₁.1, .bool _⟩)))
  · apply iBo ev; clear ev; intro b' hx ev
    cases ev
    exact wpAny_isTrue_Not (i_ra.2 env ρ P A s E _ _ hA G F EO hx fun s₁ k₁ => hQ _ k₁)
theorem m_neg {sc a pa p} (ra : Rep sc a pa) (i_ra : GE prog w K mg mb Γ Γm isi kn fo n sc a pa) : GE prog w K mg mb Γ Γm isi kn fo n sc (.UnaryOp .USub a p) (.neg pa) := by
  refine both (fun env ρ P A s E Q d hA G F EO ev hQ => ?_) fun _ _ => rfl
  apply iIn ev; clear ev; intro i hx ev
  have ev := Option.some.inj ev; subst ev
  exact wpAny_UnaryOp (i_ra.1 env ρ P A s E _ _ hA G F EO hx fun u s₁ p₁ => s_neg p₁.2 fun v s' p => hQ v s' (.tr p₁.1 p))
theorem m_and {sc l ps p} (r : RepL sc l ps) (i_r : GL prog w K mg mb Γ Γm isi kn fo n sc l ps) : GE prog w K mg mb Γ Γm isi kn fo n sc (.BoolOp .And l p) (.and ps) := by
  refine ⟨fun env ρ P A s E Q d hA G F EO ev hQ => ?_, fun env ρ P A s E Q b hA G F EO ev hQ => ?_⟩
  · apply iM ev; clear ev; intro b hb ev; subst ev
    rw [arm_eval_BoolOp]
    exact i_r.2.1 env ρ P A s E Q b _ hA G F EO hb fun s' k => hQ _ _ ⟨k, .bool _⟩
  · apply iM ev; clear ev; intro b' hb hbb
    cases hbb
    exact wpAny_isTrue_BoolOp (i_r.2.2.2.1 env ρ P A s E Q b hA G F EO hb hQ)
theorem m_or {sc l ps p} (r : RepL sc l ps) (i_r : GL prog w K mg mb Γ Γm isi kn fo n sc l ps) : GE prog w K mg mb Γ Γm isi kn fo n sc (.BoolOp .Or l p) (.or ps) := by
  refine ⟨fun env ρ P A s E Q d hA G F EO ev hQ => ?_, fun env ρ P A s E Q b hA G F EO ev hQ => ?_⟩
  · apply iM ev; clear ev; intro b hb ev; subst ev
    rw [arm_eval_BoolOp]
    exact i_r.2.2.1 env ρ P A s E Q b _ hA G F EO hb fun s' k => hQ _ _ ⟨k, .bool _⟩
  · apply iM ev; clear ev; intro b' hb hbb
    cases hbb
    exact wpAny_isTrue_BoolOp (i_r.2.2.2.2.1 env ρ P A s E Q b hA G F EO hb hQ)
theorem m_bin {sc a pa op b pb p} (ra : Rep sc a pa) (rb : Rep sc b pb) (i_ra : GE prog w K mg mb Γ Γm isi kn fo n sc a pa) (i_rb : GE prog w K mg mb Γ Γm isi kn fo n sc b pb) : GE prog w K mg mb Γ Γm isi kn fo n sc (.BinOp a op b p) (.bin op pa pb) := by
  refine both (fun env ρ P A s E Q d hA G F EO ev hQ => ?_) fun _ _ => rfl
  apply iD ev; clear ev; intro x hx ev
  apply iD ev; clear ev; intro y hy ev
  exact wpAny_BinOp (i_ra.1 env ρ P A s E _ x hA G F EO hx fun u s₁ p₁ => i_rb.1 env ρ P A s₁ E _ y hA (G.keeps (kp p₁.1)) (F.keeps (kp p₁.1)) (EO.keeps p₁.1) hy fun v s₂ p₂ =>
    s_bin ev ((F.keeps (kp p₁.1)).keeps (kp p₂.1)) (p₁.2.keeps p₂.1) p₂.2 fun v s' p => hQ v s' (.tr (kTr p₁.1 p₂.1) p))
theorem m_ite {sc t pt a pa b pb p} (rt : Rep sc t pt) (ra : Rep sc a pa) (rb : Rep sc b pb) (i_rt : GE prog w K mg mb Γ Γm isi kn fo n sc t pt) (i_ra : GE prog w K mg mb Γ Γm isi kn fo n sc a pa) (i_rb : GE prog w K mg mb Γ Γm isi kn fo n sc b pb) : GE prog w K mg mb Γ Γm isi kn fo n sc (.IfExp t a b p) (.ite pt pa pb) := by
  refine ⟨fun env ρ P A s E Q d hA G F EO ev hQ => ?_, fun env ρ P A s E Q b hA G F EO ev hQ => ?_⟩
  · apply iTF ev
    · clear ev; intro ht ev
      exact wpAny_IfExp (i_rt.2 env ρ P A s E _ _ hA G F EO ht fun s₁ k₁ => by
        exact i_ra.1 env ρ P A s₁ E Q d hA (G.keeps (kp k₁)) (F.keeps (kp k₁)) (EO.keeps k₁) ev fun v s' p => hQ v s' (.tr k₁ p))
    · clear ev; intro ht ev
      exact wpAny_IfExp (i_rt.2 env ρ P A s E _ _ hA G F EO ht fun s₁ k₁ => by
        exact i_rb.1 env ρ P A s₁ E Q d hA (G.keeps (kp k₁)) (F.keeps (kp k₁)) (EO.keeps k₁) ev fun v s' p => hQ v s' (.tr k₁ p))
  · rw [arm_isTrue_IfExp]
    apply iTF ev
    · clear ev; intro ht ev
      refine wpAny_bind (i_rt.2 env ρ P A s E _ _ hA G F EO ht fun s₁ k₁ => ?_)
      exact i_ra.2 env ρ P A s₁ E Q b hA (G.keeps (kp k₁)) (F.keeps (kp k₁)) (EO.keeps k₁) ev fun s' k => hQ s' (kTr k₁ k)
    · clear ev; intro ht ev
      refine wpAny_bind (i_rt.2 env ρ P A s E _ _ hA G F EO ht fun s₁ k₁ => ?_)
      exact i_rb.2 env ρ P A s₁ E Q b hA (G.keeps (kp k₁)) (F.keeps (kp k₁)) (EO.keeps k₁) ev fun s' k => hQ s' (kTr k₁ k)
theorem m_comp {sc sc' elt pe x nq px iter pi ifs ps p} (re : Rep sc' elt pe) (ri : Rep sc iter pi) (rs : RepL sc' ifs ps) (hn : nmOk x nq = true) (hc : compScOk sc sc' x = true) (i_re : GE prog w K mg mb Γ Γm isi kn fo n sc' elt pe) (i_ri : GE prog w K mg mb Γ Γm isi kn fo n sc iter pi) (i_rs : GL prog w K mg mb Γ Γm isi kn fo n sc' ifs ps) : GE prog w K mg mb Γ Γm isi kn fo n sc (.ListComp elt [⟨.Name x px, iter, ifs, 0⟩] sc' p) (.comp pe nq pi ps) := by
  refine both (fun env ρ P A s E Q d hA G F EO ev hQ => ?_) fun _ _ => rfl
  apply iD ev; clear ev; intro src hsrc ev
  apply iL ev; clear ev; intro ds hds ev
  apply iB ev; clear ev; intro hl ev
  apply iM ev; clear ev; intro outs ho ev; subst ev
  refine s_comp hA.1 G F EO (compSc_of hc) (by rw [(nmOk.e hn), (nmOk.d hn)]) (fun y => ri.folded env y) (fun Q' h => i_ri.1 env ρ P A s E Q' src hA G F EO hsrc h) hds (Nat.le_of_ble_eq_true hl) ho ?_ ?_ hQ
  · intro P' cenv s' d b Q' E' G' F' EO' ht h
    rw [(nmOk.e hn)] at EO'
    exact i_rs.2.2.2.2.2.1 cenv _ P' A s' E' Q' b hA G' F' EO' ht h
  · intro P' cenv s' d d' Q' E' G' F' EO' hf h
    rw [(nmOk.e hn)] at EO'
    exact i_re.1 cenv _ P' A s' E' Q' d' hA G' F' EO' hf h
theorem m_cmp2 {sc a pa o1 b pb o2 c pc p} (ra : Rep sc a pa) (rb : Rep sc b pb) (rc : Rep sc c pc) (i_ra : GE prog w K mg mb Γ Γm isi kn fo n sc a pa) (i_rb : GE prog w K mg mb Γ Γm isi kn fo n sc b pb) (i_rc : GE prog w K mg mb Γ Γm isi kn fo n sc c pc) : GE prog w K mg mb Γ Γm isi kn fo n sc (.Compare a [o1, o2] [b, c] p) (.cmp2 o1 o2 pa pb pc) := by
  have hu : ∀ {A : Around}, AOK n A → A.units + 66 < cLine := fun h => by have := h.2.2; omega
  refine ⟨fun env ρ P A s E Q d hA G F EO ev hQ => ?_, fun env ρ P A s E Q b hA G F EO ev hQ => ?_⟩
  · apply iD ev; clear ev; intro x hx ev
    apply iD ev; clear ev; intro y hy ev
    refine Compare_chain (i_ra.1 env ρ P A s E _ x hA G F EO hx fun u s₁ p₁ => chain_link (i_rb.1 env ρ P A s₁ E _ y hA (G.keeps (kp p₁.1)) (F.keeps (kp p₁.1)) (EO.keeps p₁.1) hy fun v s₂ p₂ => ?_)) (rc.marks _)
    have k₂ := kTr p₁.1 p₂.1
    apply iCf ev
    · clear ev; intro h1 ev
      refine s_cmp h1 (p₁.2.keeps p₂.1) p₂.2 (hu hA) fun tk => wpAny_truthy_bool ?_
      have k₃ := kTr k₂ (kTk s₂ tk)
      apply iD ev; clear ev; intro z hz ev
      apply iM ev; clear ev; intro b hb ev; subst ev
      exact chain_last (i_rc.1 env ρ P A _ E _ z hA (G.keeps (kp k₃)) (F.keeps (kp k₃)) (EO.keeps k₃) hz fun c s₄ p₄ =>
        s_cmp hb ((p₂.2.keeps (kTk s₂ tk)).keeps p₄.1) p₄.2 (hu hA) fun tk' => hQ _ _ ⟨kTr (kTr k₃ p₄.1) (kTk s₄ tk'), .bool _⟩)
    · clear ev; intro h1 ev
      have ev := Option.some.inj ev; subst ev
      refine s_cmp h1 (p₁.2.keeps p₂.1) p₂.2 (hu hA) fun tk => wpAny_truthy_bool ?_
      exact hQ _ _ ⟨kTr k₂ (kTk s₂ tk), .bool _⟩
  · apply iD ev; clear ev; intro x hx ev
    apply iD ev; clear ev; intro y hy ev
    refine isTrue_chain (i_ra.1 env ρ P A s E _ x hA G F EO hx fun u s₁ p₁ => test_link (i_rb.1 env ρ P A s₁ E _ y hA (G.keeps (kp p₁.1)) (F.keeps (kp p₁.1)) (EO.keeps p₁.1) hy fun v s₂ p₂ => ?_)) (rc.marks _)
    have k₂ := kTr p₁.1 p₂.1
    apply iCf ev
    · clear ev; intro h1 ev
      refine s_cmp h1 (p₁.2.keeps p₂.1) p₂.2 (hu hA) fun tk => wpAny_truthy_bool ?_
      have k₃ := kTr k₂ (kTk s₂ tk)
      apply iD ev; clear ev; intro z hz ev
      apply iM ev; clear ev; intro b' hb hbb
      cases hbb
      exact test_last (i_rc.1 env ρ P A _ E _ z hA (G.keeps (kp k₃)) (F.keeps (kp k₃)) (EO.keeps k₃) hz fun c s₄ p₄ =>
        s_cmp hb ((p₂.2.keeps (kTk s₂ tk)).keeps p₄.1) p₄.2 (hu hA) fun tk' => wpAny_truthy_bool (hQ _ (kTr (kTr k₃ p₄.1) (kTk s₄ tk'))))
    · clear ev; intro h1 ev
      cases ev
      refine s_cmp h1 (p₁.2.keeps p₂.1) p₂.2 (hu hA) fun tk => wpAny_truthy_bool ?_
      exact hQ _ (kTr k₂ (kTk s₂ tk))
theorem m_cutIn {sc x p0 pa j0 kj0 pj0 i0 k0 pp0 q p'} (hji : j0 ≤ i0) (ra : Rep sc (.Name x p0) pa) (i_ra : GE prog w K mg mb Γ Γm isi kn fo n sc (.Name x p0) pa) : GE prog w K mg mb Γ Γm isi kn fo n sc (.Subscript (.Name x p0) (.Slice (some (.Constant (.int (Int.ofNat j0)) kj0 pj0)) (some (.Constant (.int (Int.ofNat i0)) k0 pp0)) none q) p') (.cut pa j0 i0) := by
  refine both (fun env ρ P A s E Q d hA G F EO ev hQ => ?_) fun _ _ => rfl
  apply iLs ev; clear ev; intro l hx ev
  apply iB ev; clear ev; intro hl ev
  have ev := Option.some.inj ev; subst ev
  refine wpAny_Subscript_list_slice (i_ra.1 env ρ P A s E _ _ hA G F EO hx fun u s₁ p₁ => ?_)
  obtain ⟨k₁, r₁⟩ := p₁
  apply RelV.eLst r₁; clear r₁; intro _ _ hp hll rl
  rename_i a vs
  refine wpAny_Constant_int (k := kj0) (pos := pj0) ?_
  refine wpAny_Constant_int (k := k0) (pos := pp0) ?_
  have hlen := Nat.le_of_ble_eq_true hl
  refine ⟨a, vs.toArray, some (Int.ofNat j0), some (Int.ofNat i0), rfl, hll, by rw [List.size_toArray, rl.length, sizeLine_eq]; omega, .int _ _, .int _ _, ?_⟩
  have e : slicePick vs.toArray (some (Int.ofNat j0)) (some (Int.ofNat i0)) none = ((vs.drop j0).take (i0 - j0)).toArray := by
    rw [slicePick_plain]
    simp only [Option.elim, show (Int.ofNat j0) = ((j0 : Nat) : Int) from rfl, show (Int.ofNat i0) = ((i0 : Nat) : Int) from rfl, clipAt_nat, List.size_toArray]
    congr 1
    rcases Nat.le_total i0 vs.length with h | h
    · rw [Nat.min_eq_left h, Nat.min_eq_left (Nat.le_trans hji h)]
    · rw [Nat.min_eq_right h]
      rcases Nat.le_total j0 vs.length with h' | h'
      · rw [Nat.min_eq_left h', List.take_of_length_le (by simp), List.take_of_length_le (by simp; omega)]
      · rw [Nat.min_eq_right h', List.drop_of_length_le (by simp), List.drop_of_length_le (by simpa using h')]; simp
  rw [e]
  exact hQ _ _ (cutPost (F.keeps (kp k₁)) k₁ ((rl.drop j0).take (i0 - j0)) _ _)
theorem m_dict {sc ks mks vs ps p} (hk : KReps ks mks) (hnd : nodupB mks = true) (hlen : ks.length ≤ 15) (hl : ks.length = vs.length) (r : RepL sc vs ps) (i_r : GL prog w K mg mb Γ Γm isi kn fo n sc vs ps) : GE prog w K mg mb Γ Γm isi kn fo n sc (.Dict ks vs p) (.dict mks ps) := by
  refine both (fun env ρ P A s E Q d hA G F EO ev hQ => ?_) fun _ _ => rfl
  apply iL ev; clear ev; intro ds hds ev
  apply iSs ev; clear ev; intro xs hxs ev
  have ev := Option.some.inj ev; subst ev
  exact s_dictS G F hk hnd hlen hl hxs (fun P' s₀ Q' k F' EO' h => i_r.2.2.2.2.2.2 env ρ P' A s₀ E Q' ds _ _ _ hk hl hA (G.keeps (kp k)) F' EO' hds h) (r.length.trans (evEs_length hds)) EO hQ
theorem m_mget {sc ks mks vvs ps dp ap k pk d pd q} (hk : KReps ks mks) (hnd : nodupB mks = true) (hlen : ks.length ≤ 15) (h0 : 0 < ks.length) (hl : ks.length = vvs.length) (hline : (ap.endLine == q.line) = true) (r : RepL sc vvs ps) (rk : Rep sc k pk) (rd : Rep sc d pd) (i_r : GL prog w K mg mb Γ Γm isi kn fo n sc vvs ps) (i_rk : GE prog w K mg mb Γ Γm isi kn fo n sc k pk) (i_rd : GE prog w K mg mb Γ Γm isi kn fo n sc d pd) : GE prog w K mg mb Γ Γm isi kn fo n sc (.Call (.Attribute (.Dict ks vvs dp) ("get" : Str) ap) [k, d] [] q) (.mget mks ps pk pd) := by
  refine both (fun env ρ P A s E Q d hA G F EO ev hQ => ?_) fun _ _ => rfl
  apply iL ev; clear ev; intro ds hds ev
  · apply iD ev; clear ev; intro kd hkd ev
    apply iD ev; clear ev; intro dd hdd ev
    apply iK ev; clear ev; intro m hm ev
    rw [arm_eval_Call, attrBase (by rfl)]
    have kpush := kPush s { cls := .type "dict", data := .dict #[] } s.toks
    refine wpAny_bind (s_dictG (prog := prog) (w := w) (mg := mg) (P := P) (mixKind prog w) id F hk.isSome hl h0 hlen (fun k _ v hv => hv) (by rw [List.map_id]; exact nodup_of hnd) (fun Q' h => i_r.2.2.2.2.2.2 env ρ (fun b => P b ∧ b ≠ s.heap.objs.size) A _ E Q' ds _ _ _ hk hl hA (G.keeps (kp kpush)) (fun b e => ⟨(F.keeps (kp kpush)) b e, fun q => ?_⟩) ?_ hds h) fun s₁ vs k₁ hd rl => ?_)
    · subst q
      have : (s.heap.push { cls := .type "dict", data := .dict #[] }).get? s.heap.objs.size = some { cls := .type "dict", data := .dict #[] } := Heap.get?_push_size _ rfl
      dsimp only at e
      rw [this] at e; first | exact nn e | exact nf e | exact ns e
    · exact EO.mono (kp kpush) fun b o p e => ⟨p, fun q => by subst q; rw [get_size] at e; cases e⟩
    · rw [List.map_id] at hd
      refine wpAny_bind (wpAny_standAt (s_methodCall hline (by simp) (by rw [rk.star, rd.star]; rfl) fun pl => ?_))
      refine getMethod_builtin hd.typeIs PySem.F.plainAttrs_dict PySem.F.slot_dict_get PySem.F.type_dict_get hd.mapOf.noDict ?_
      rw [rk.star, rd.star]
      refine wpAny_dict_get2 (K := MK) (knd := mixKind prog w) (notSys G) (i_rk.1 env ρ P A s₁ E _ kd hA (G.keeps (kp k₁)) (F.keeps (kp k₁)) (EO.keeps k₁) hkd fun kv s₂ p₂ => ?_)
      have k₂ := kTr k₁ p₂.1
      refine i_rd.1 env ρ P A s₂ E _ dd hA (G.keeps (kp k₂)) (F.keeps (kp k₂)) (EO.keeps k₂) hdd fun dv s₃ p₃ => ?_
      have k₃ := kTr p₂.1 p₃.1
      have kT := kTk s₃ (s₃.toks + 1)
      have hd₃ : s₃.heap.DictOf (mixKind prog w) s.heap.objs.size (mks.zip vs) := by
        refine hide fun Gg kg => ?_
        obtain ⟨o, es, ep, ho, rr⟩ := hd
        refine kg ?_; clear kg Gg
        exact ⟨o, es, ep, kp k₃ _ _ ho, rr⟩
      refine ⟨m, _, mkOf_is (p₂.2.keeps p₃.1) hm, hd₃.mapOf, ?_⟩
      obtain ⟨g1, g2⟩ := valueAt_getM (ks := mks) (rl.keeps k₃) m
      cases hr : getM mks ds m with
      | some r' =>
        rw [hr] at ev
        have ev := Option.some.inj ev; subst ev
        refine hide fun Gg kg => ?_
        obtain ⟨u, hu, ru⟩ := g1 _ hr
        refine kg ?_; clear kg Gg
        rw [hu]
        exact hQ _ _ ⟨kTr (kTr k₁ k₃) kT, ru.keeps kT⟩
      | none =>
        rw [hr] at ev
        have ev := Option.some.inj ev; subst ev
        rw [g2 hr]
        exact hQ _ _ ⟨kTr (kTr k₁ k₃) kT, p₃.2.keeps kT⟩

theorem m_nil {sc} : GL prog w K mg mb Γ Γm isi kn fo n sc [] [] := by
  refine ⟨fun env ρ P A s E Q ds pos hA G F EO ev hQ => ?_, fun env ρ P A s E Q b pos hA G F EO ev hQ => ?_, fun env ρ P A s E Q b pos hA G F EO ev hQ => ?_, fun env ρ P A s E Q b hA G F EO ev hQ => ?_, fun env ρ P A s E Q b hA G F EO ev hQ => ?_, fun env ρ P A s E Q b hA G F EO ev hQ => ?_, fun env ρ P A s E Q ds pos ks mks hk hl hA G F EO ev hQ => ?_⟩
  · have ev := Option.some.inj ev; subst ev
    exact wpAny_items_nil (hQ _ _ (kRfl s) .nil)
  · exact nn ev
  · exact nn ev
  · exact nn ev
  · exact nn ev
  · have ev := Option.some.inj ev; subst ev
    rw [List.forIn_nil]
    exact wpAny_pure (hQ _ (kRfl s))
  · have ev := Option.some.inj ev; subst ev
    cases hk with
    | nil => exact evalPairs_nil (hQ [] _ (kRfl s) rfl .nil)
    | cons => simp at hl
theorem m_cons {sc e pe l ps} (r : Rep sc e pe) (rs : RepL sc l ps) (hE : GE prog w K mg mb Γ Γm isi kn fo n sc e pe) (hL : GL prog w K mg mb Γ Γm isi kn fo n sc l ps) : GL prog w K mg mb Γ Γm isi kn fo n sc (e :: l) (pe :: ps) := by
  refine ⟨fun env ρ P A s E Q ds pos hA G F EO ev hQ => ?_, fun env ρ P A s E Q b pos hA G F EO ev hQ => ?_, fun env ρ P A s E Q b pos hA G F EO ev hQ => ?_, fun env ρ P A s E Q b hA G F EO ev hQ => ?_, fun env ρ P A s E Q b hA G F EO ev hQ => ?_, fun env ρ P A s E Q b hA G F EO ev hQ => ?_, fun env ρ P A s E Q ds pos ks mks hk hl hA G F EO ev hQ => ?_⟩
  · apply iD ev; clear ev; intro d hd ev
    apply iL ev; clear ev; intro ds' hds ev
    have ev := Option.some.inj ev; subst ev
    exact wpAny_items_cons (hE.1 env ρ P A s E _ d hA G F EO hd fun v s₁ p₁ => hL.1 env ρ P A s₁ E _ ds' pos hA (G.keeps (kp p₁.1)) (F.keeps (kp p₁.1)) (EO.keeps p₁.1) hds fun vs s₂ k₂ rl => hQ _ _ (kTr p₁.1 k₂) (.cons (p₁.2.keeps k₂) rl)) (r.star _ _)
  · cases rs with
    | nil =>
      apply iBo ev; clear ev; intro b' hb ev
      have ev := Option.some.inj ev; subst ev
      exact hE.1 env ρ P A s E Q _ hA G F EO hb fun v s' p => by obtain ⟨k, rv⟩ := p; (apply RelV.eBool rv; clear rv); exact hQ _ k
    | cons r2 rs2 =>
      refine wpAny_bind ?_
      apply iTF ev
      · clear ev; intro hb ev
        refine hE.1 env ρ P A s E _ _ hA G F EO hb fun v s₁ p => ?_
        obtain ⟨k, rv⟩ := p; (apply RelV.eBool rv; clear rv)
        exact wpAny_bind (wpAny_standAt (wpAny_bind (wpAny_holding (wpAny_truthy_bool (hL.2.1 env ρ P A s₁ E Q b pos hA (G.keeps (kp k)) (F.keeps (kp k)) (EO.keeps k) ev fun s' k' => hQ s' (kTr k k'))))))
      · clear ev; intro hb ev
        have ev := Option.some.inj ev; subst ev
        refine hE.1 env ρ P A s E _ _ hA G F EO hb fun v s₁ p => ?_
        obtain ⟨k, rv⟩ := p; (apply RelV.eBool rv; clear rv)
        exact wpAny_bind (wpAny_standAt (wpAny_bind (wpAny_holding (wpAny_truthy_bool (wpAny_pure (hQ _ k))))))
  · cases rs with
    | nil =>
      apply iBo ev; clear ev; intro b' hb ev
      have ev := Option.some.inj ev; subst ev
      exact hE.1 env ρ P A s E Q _ hA G F EO hb fun v s' p => by obtain ⟨k, rv⟩ := p; (apply RelV.eBool rv; clear rv); exact hQ _ k
    | cons r2 rs2 =>
      refine wpAny_bind ?_
      apply iTF ev
      · clear ev; intro hb ev
        have ev := Option.some.inj ev; subst ev
        refine hE.1 env ρ P A s E _ _ hA G F EO hb fun v s₁ p => ?_
        obtain ⟨k, rv⟩ := p; (apply RelV.eBool rv; clear rv)
        exact wpAny_bind (wpAny_standAt (wpAny_bind (wpAny_holding (wpAny_truthy_bool (wpAny_pure (hQ _ k))))))
      · clear ev; intro hb ev
        refine hE.1 env ρ P A s E _ _ hA G F EO hb fun v s₁ p => ?_
        obtain ⟨k, rv⟩ := p; (apply RelV.eBool rv; clear rv)
        exact wpAny_bind (wpAny_standAt (wpAny_bind (wpAny_holding (wpAny_truthy_bool (hL.2.2.1 env ρ P A s₁ E Q b pos hA (G.keeps (kp k)) (F.keeps (kp k)) (EO.keeps k) ev fun s' k' => hQ s' (kTr k k'))))))
  · cases rs with
    | nil =>
      apply iBo ev; clear ev; intro b' hb ev
      first | exact nn ev | exact nf ev | exact ns ev | cases ev
      refine wpAny_allTrue_And_cons (hE.2 env ρ P A s E _ _ hA G F EO hb fun s' k => ?_)
      cases b
      · exact hQ _ k
      · exact wpAny_allTrue_And_nil (hQ _ k)
    | cons r2 rs2 =>
      apply iTF ev
      · clear ev; intro hb ev
        refine wpAny_allTrue_And_cons (hE.2 env ρ P A s E _ _ hA G F EO hb fun s₁ k => ?_)
        exact hL.2.2.2.1 env ρ P A s₁ E Q b hA (G.keeps (kp k)) (F.keeps (kp k)) (EO.keeps k) ev fun s' k' => hQ s' (kTr k k')
      · clear ev; intro hb ev
        have ev := Option.some.inj ev; subst ev
        refine wpAny_allTrue_And_cons (hE.2 env ρ P A s E _ _ hA G F EO hb fun s₁ k => ?_)
        exact hQ _ k
  · cases rs with
    | nil =>
      apply iBo ev; clear ev; intro b' hb ev
      first | exact nn ev | exact nf ev | exact ns ev | cases ev
      refine wpAny_allTrue_Or_cons (hE.2 env ρ P A s E _ _ hA G F EO hb fun s' k => ?_)
      cases b
      · exact wpAny_allTrue_Or_nil (hQ _ k)
      · exact hQ _ k
    | cons r2 rs2 =>
      apply iTF ev
      · clear ev; intro hb ev
        have ev := Option.some.inj ev; subst ev
        refine wpAny_allTrue_Or_cons (hE.2 env ρ P A s E _ _ hA G F EO hb fun s₁ k => ?_)
        exact hQ _ k
      · clear ev; intro hb ev
        refine wpAny_allTrue_Or_cons (hE.2 env ρ P A s E _ _ hA G F EO hb fun s₁ k => ?_)
        exact hL.2.2.2.2.1 env ρ P A s₁ E Q b hA (G.keeps (kp k)) (F.keeps (kp k)) (EO.keeps k) ev fun s' k' => hQ s' (kTr k k')
  · rw [List.forIn_cons, if_pos rfl]
    apply iTF ev
    · clear ev; intro hb ev
      refine wpAny_bind (wpAny_bind (hE.2 env ρ P A s E _ _ hA G F EO hb fun s₁ k => wpAny_pure ?_))
      exact hL.2.2.2.2.2.1 env ρ P A s₁ E Q b hA (G.keeps (kp k)) (F.keeps (kp k)) (EO.keeps k) ev fun s' k' => hQ s' (kTr k k')
    · clear ev; intro hb ev
      have ev := Option.some.inj ev; subst ev
      refine wpAny_bind (wpAny_bind (hE.2 env ρ P A s E _ _ hA G F EO hb fun s₁ k => wpAny_pure ?_))
      exact tests_false _ _ (hQ _ k)
  · apply iD ev; clear ev; intro d hd ev
    apply iL ev; clear ev; intro ds' hds ev
    have ev := Option.some.inj ev; subst ev
    cases hk with
    | nil => simp at hl
    | cons hke hks =>
      refine evalPairs_cons (krep_eval hke fun kv s₁ k₁ hkv => wpAny_bind (hE.1 env ρ P A s₁ E _ d hA (G.keeps (kp k₁)) (F.keeps (kp k₁)) (EO.keeps k₁) hd fun v s₂ p₂ => wpAny_bind (wpAny_standAt (wpAny_pure ?_))))
      have k₂ := kTr k₁ p₂.1
      exact hL.2.2.2.2.2.2 env ρ P A s₂ E _ ds' pos _ _ hks (by simpa using hl) hA (G.keeps (kp k₂)) (F.keeps (kp k₂)) (EO.keeps k₂) hds fun prs s₃ k₃ hka rl => hQ _ _ (kTr k₂ k₃) (.cons hkv hka) (.cons (p₂.2.keeps k₃) rl)
theorem mainE {sc : Scope} {e : Expr} {pe : PE} (r : Rep sc e pe) : GE prog w K mg mb Γ Γm isi kn fo n sc e pe :=
  Rep.rec (motive_1 := fun sc e pe _ => GE prog w K mg mb Γ Γm isi kn fo n sc e pe) (motive_2 := fun sc l ps _ => GL prog w K mg mb Γ Γm isi kn fo n sc l ps)
    (m_none O) (m_bool O) (m_int O) (m_str O) (m_var O) (m_glob O) (m_tup O) (m_lst O) (m_item O) (m_upto O) (m_attr O) (m_call O) (m_callv O) (m_isinst O) (m_meth O) (m_cmp O) (m_not O) (m_neg O) (m_and O) (m_or O) (m_bin O) (m_ite O) (m_comp O) (m_cmp2 O) (m_cutIn O) (m_dict O) (m_mget O) (m_nil O) (m_cons O) r
theorem mainL {sc : Scope} {l : List Expr} {ps : List PE} (r : RepL sc l ps) : GL prog w K mg mb Γ Γm isi kn fo n sc l ps := by
  induction l generalizing ps with
  | nil => (cases r); exact m_nil O
  | cons a l ih => cases r with | cons a b => exact m_cons O a b (mainE O a) (ih b)
end
end Mine
end

section
open PySem PySem.W PyProof.Rows PySem.Calls
set_option maxRecDepth 100000
set_option genSizeOf false
set_option genInjectivity false
namespace Mine

/-- the addresses that a frame may write -/
noncomputable def Wr (env : Env) (W : Addr → Prop) (b : Addr) : Prop := b = env.locals ∨ (∃ x, (x, b) ∈ env.cells) ∨ W b

/-- what a statement does to the state -/
structure Step (env : Env) (W : Addr → Prop) (s : Shared) (W' : Addr → Prop) (s' : Shared) : Prop where
  same : ∃ h t, s' = { s with heap := h, toks := t }
  kept : ∀ b o, ¬ Wr env W b → s.heap.get? b = some o → s'.heap.get? b = some o
  alive : ∀ b, (s.heap.get? b).isSome = true → (s'.heap.get? b).isSome = true
  newW : ∀ b, W' b → W b ∨ s.heap.get? b = none
  ow : (∃ b, W b) → W' = W
  cls : ∀ b o, W b → s.heap.get? b = some o → ∃ o', s'.heap.get? b = some o' ∧ o'.cls = o.cls


section
variable {env : Env} {W W' W'' : Addr → Prop} {s s' s'' : Shared}
theorem Step.of (k : Keeps s s') : Step env W s W s' := by
  refine hide fun Gg kg => ?_
  obtain ⟨h, t, rfl, k⟩ := k
  refine kg ?_; clear kg Gg
  exact ⟨⟨h, t, rfl⟩, fun b o _ e => k b o e, fun b e => by obtain ⟨o, ho⟩ := Option.isSome_iff_exists.mp e; exact isSome_of (k b o ho), fun b w => .inl w, fun _ => rfl, fun b o _ e => ⟨o, k b o e, rfl⟩⟩
theorem Step.rfl' : Step env W s W s := .of (kRfl s)
theorem Step.tr (a : Step env W s W' s') (b : Step env W' s' W'' s'') : Step env W s W'' s'' := by
  refine ⟨?_, fun x o nw e => b.kept x o (fun w => ?_) (a.kept x o nw e), fun x e => b.alive x (a.alive x e), fun x w => ?_, fun h => ?_, fun x o w e => ?_⟩
  · refine hide fun Gg kg => ?_
    obtain ⟨h, t, rfl⟩ := a.same
    obtain ⟨h', t', rfl⟩ := b.same
    refine kg ?_; clear kg Gg
    exact ⟨h', t', rfl⟩
  · rcases w with w | w | w
    · exact nw (.inl w)
    · exact nw (.inr (.inl w))
    · rcases a.newW x w with w | q
      · exact nw (.inr (.inr w))
      · rw [q] at e; cases e
  · rcases b.newW x w with w | q
    · exact a.newW x w
    · cases z : s.heap.get? x with
      | none => exact .inr rfl
      | some o => have := a.alive x (isSome_of z); rw [q] at this; cases this
  · have e := a.ow h
    subst e
    exact b.ow h
  · have eW := a.ow ⟨x, w⟩
    subst eW
    refine hide fun Gg kg => ?_
    obtain ⟨o1, h1, c1⟩ := a.cls x o w e
    obtain ⟨o2, h2, c2⟩ := b.cls x o1 w h1
    refine kg ?_; clear kg Gg
    exact ⟨o2, h2, c2.trans c1⟩
end

noncomputable def StrKs (es : List DictEntry) : Prop := ∀ e ∈ es, ∃ k t, e.key = .str k t
section
variable (prog : Program) (w : World) (mg : Str → Option Value)
/-- an object that is the frame's own, to be written -/
inductive OwnV (P : Addr → Prop) (h : Heap) : Value → D → (Addr → Prop) → Prop
  | lst {a : Addr} {vs : List Value} {l : List D} : h.PlainList a vs.toArray → RelL prog w mg P h vs l → OwnV P h (.ref a) (.lst l) (fun b => b = a)
  | inst {x dx C : Addr} {c n : Nat} {fs : List (Nat × D)} {es : List DictEntry} : h.get? x = some (instObj C dx) → h.get? dx = some ⟨.type "dict", none, .dict es.toArray n, #[]⟩ → x ≠ dx → mg (dec c) = some (.ref C) →
      StrKs es → es.length ≤ fs.length → RelF prog w mg P h ⟨.type "dict", none, .dict es.toArray n, #[]⟩ fs → (∀ p ∈ fs, enc (dec p.1) = p.1) → (fs.map (·.1)).Nodup → Only ⟨.type "dict", none, .dict es.toArray n, #[]⟩ fs → OwnV P h (.ref x) (.inst c fs) (fun b => b = x ∨ b = dx)
end

section
variable {prog : Program} {w : World} {K : Frag} {mg mb : Str → Option Value} {P P' W W' : Addr → Prop} {A : Around} {E : Value → Shared → Prop} {s s' : Shared} {env : Env} {sc : Scope} {h h' h₀ : Heap} {ρ : List (Nat × D)} {o : Option (Nat × D)}

theorem OwnV.eInst {v : Value} {c : Nat} {fs : List (Nat × D)} {M : Value → (Addr → Prop) → Prop} (r : OwnV prog w mg P h v (.inst c fs) W) (k : ∀ x dx C n es, h.get? x = some (instObj C dx) → h.get? dx = some ⟨.type "dict", none, .dict es.toArray n, #[]⟩ → x ≠ dx → mg (dec c) = some (.ref C) → StrKs es → es.length ≤ fs.length → RelF prog w mg P h ⟨.type "dict", none, .dict es.toArray n, #[]⟩ fs → (∀ p ∈ fs, enc (dec p.1) = p.1) → (fs.map (·.1)).Nodup → Only ⟨.type "dict", none, .dict es.toArray n, #[]⟩ fs → M (.ref x) (fun b => b = x ∨ b = dx)) : M v W := by
  cases r with
  | inst h1 h2 h3 h4 h5 h6 h7 h8 h9 h10 => exact k _ _ _ _ _ h1 h2 h3 h4 h5 h6 h7 h8 h9 h10
theorem OwnV.eLst {v : Value} {l : List D} {M : Value → (Addr → Prop) → Prop} (r : OwnV prog w mg P h v (.lst l) W) (k : ∀ a vs, h.PlainList a vs.toArray → RelL prog w mg P h vs l → M (.ref a) (fun b => b = a)) : M v W := by
  cases r with
  | lst h1 h2 => exact k _ _ h1 h2
theorem OwnV.mono {v : Value} {d : D} (r : OwnV prog w mg P h v d W) (k : ∀ b o, (P b ∨ W b) → h.get? b = some o → h'.get? b = some o) (kP : ∀ b o, P b → h.get? b = some o → P' b) : OwnV prog w mg P' h' v d W := by
  cases r with
  | lst hp rl => exact .lst (hp.at fun o e => k _ o (.inr rfl) e) (RelL.mono (fun b o p e => ⟨k b o (.inl p) e, kP b o p e⟩) rl)
  | inst h1 h2 h3 h4 h5 h6 h7 h8 h9 h10 => exact .inst (k _ _ (.inr (.inl rfl)) h1) (k _ _ (.inr (.inr rfl)) h2) h3 h4 h5 h6 (RelF.mono (fun b o p e => ⟨k b o (.inl p) e, kP b o p e⟩) h7) h8 h9 h10
theorem OwnV.rel {v : Value} {d : D} (r : OwnV prog w mg P h v d W) : RelV prog w mg (fun b => P b ∨ W b) h v d := by
  cases r with
  | lst hp rl => exact .lst (.inr rfl) hp.isList (RelL.mono (fun b o p e => ⟨e, .inl p⟩) rl)
  | inst h1 h2 h3 h4 h5 h6 h7 h8 h9 h10 => exact .inst (ox := instObj _ _) (.inr (.inl rfl)) (.inr (.inr rfl)) rfl h4 ⟨h1, rfl, rfl, h2⟩ (RelF.mono (fun b o p e => ⟨e, .inl p⟩) h7) h10
theorem OwnV.alive {v : Value} {d : D} (r : OwnV prog w mg P h v d W) : ∀ b, W b → (h.get? b).isSome = true := by
  cases r with
  | lst hp rl => obtain ⟨n, hp⟩ := hp; rintro b rfl; exact isSome_of hp
  | inst h1 h2 h3 h4 h5 h6 h7 => rintro b (rfl | rfl) <;> first | exact isSome_of h1 | exact isSome_of h2
/-- none of the own objects is a tuple or a range -/
theorem OwnV.notTup {v : Value} {d : D} (r : OwnV prog w mg P h v d W) {b : Addr} (hb : W b) {o : Obj} (e : h.get? b = some o) : o.cls ≠ .type "tuple" ∧ o.cls ≠ .type "range" := by
  cases r with
  | lst hp rl => obtain ⟨n, hp⟩ := hp; cases hb; rw [hp] at e; cases e; exact ⟨by simp, by simp⟩
  | inst h1 h2 h3 h4 h5 h6 h7 =>
    rcases hb with rfl | rfl
    · rw [h1] at e; cases e; exact ⟨by simp, by simp⟩
    · rw [h2] at e; cases e; exact ⟨by simp, by simp⟩

mutual
/-- no own object, no list, no dict within: such a value is none of the own objects -/
noncomputable def flat : D → Bool
  | .none => true
  | .bool _ => true
  | .int _ => true
  | .str _ => true
  | .tup l => flats l
  | .rng _ => true
  | _ => false
noncomputable def flats : List D → Bool
  | [] => true
  | d :: r => flat d && flats r
end
section
variable (hW : ∀ b o, W b → h.get? b = some o → o.cls ≠ .type "tuple" ∧ o.cls ≠ .type "range")
include hW
theorem RelV.flat {v : Value} {d : D} (r : RelV prog w mg (fun b => P b ∨ W b) h v d) : Mine.flat d = true → RelV prog w mg P h v d :=
  RelV.rec (motive_1 := fun v d _ => Mine.flat d = true → RelV prog w mg P h v d) (motive_2 := fun vs ds _ => flats ds = true → RelL prog w mg P h vs ds) (motive_3 := fun _ _ _ => True) (motive_4 := fun _ _ _ => True)
    (fun _ => .none) (fun b _ => .bool b) (fun i t _ => .int i t) (fun s t _ => .str s t)
    (fun hp ht _ nd l e => have ⟨o, ho, hc, _⟩ := ht; .tup (hp.resolve_right fun q => (hW _ _ q ho).1 hc) ht (l e) nd)
    (fun _ _ _ _ e => nomatch e) (fun hp hr _ => .rng (hp.resolve_right fun q => (hW _ _ q hr).2 rfl) hr) (fun _ _ _ _ _ _ _ _ e => nomatch e) (fun _ _ _ _ _ e => nomatch e) (fun _ e => nomatch e)
    (fun _ => .nil) (fun _ _ a b e => .cons (a (Bool.and_eq_true_iff.mp e).1) (b (Bool.and_eq_true_iff.mp e).2)) trivial (fun _ _ _ _ _ => trivial) trivial (fun _ _ _ _ => trivial) r
theorem RelL.flats {vs : List Value} {ds : List D} (r : RelL prog w mg (fun b => P b ∨ W b) h vs ds) (e : Mine.flats ds = true) : RelL prog w mg P h vs ds := by
  induction ds generalizing vs with
  | nil => apply RelL.eNil r; exact .nil
  | cons d ds ih => apply RelL.eCons r; exact fun v vs a b => .cons (RelV.flat hW a (Bool.and_eq_true_iff.mp e).1) (ih b (Bool.and_eq_true_iff.mp e).2)
end

/-- a frame's own object, if any -/
noncomputable def OwnO (prog : Program) (w : World) (mg : Str → Option Value) (P W : Addr → Prop) (env : Env) (sc : Scope) (h : Heap) : Option (Nat × D) → Prop
  | none => ∀ b, ¬ W b
  | some (n, d) => ∃ x v, enc x = n ∧ dec n = x ∧ isVar sc x = true ∧ VarAt env h x v ∧ OwnV prog w mg P h v d W ∧ ∀ b, W b → b ≠ env.locals ∧ ∀ x, (x, b) ∉ env.cells

structure St (prog : Program) (w : World) (K : Frag) (mg mb : Str → Option Value) (h₀ : Heap) (env : Env) (sc : Scope) (P W : Addr → Prop) (s : Shared) (ρ : List (Nat × D)) (o : Option (Nat × D)) : Prop where
  gd : Gd K mg mb h₀
  gk : ∀ b o, h₀.get? b = some o → s.heap.get? b = some o
  gn : ∀ b, Wr env W b → h₀.get? b = none
  fresh : FreshIn P s.heap
  nP : ∀ b, Wr env W b → ¬ P b
  eo : EnvOK prog w mg P env sc s.heap ρ
  scope : env.scope = sc
  ns : ∃ m, s.heap.Ns env.locals m
  cell : ∀ x c, (x, c) ∈ env.cells → ∃ v, s.heap.IsCell c v
  apart : env.cells.Pairwise fun x y => x.2 ≠ y.2
  ne : ∀ x c, (x, c) ∈ env.cells → c ≠ env.locals
  own : OwnO prog w mg P W env sc s.heap o

theorem OwnO.alive (r : OwnO prog w mg P W env sc h o) : ∀ b, W b → (h.get? b).isSome = true := by
  cases o with
  | none => exact fun b hb => absurd hb (r b)
  | some p => obtain ⟨x, v, _, _, _, _, r, _⟩ := r; exact r.alive
theorem St.ownE {x : Str} {m : Nat} {d : D} {G : Prop} (S : St prog w K mg mb h₀ env sc P W s ρ (some (m, d))) (hm : nmOk x m = true)
    (k : ∀ u, enc x = m → dec m = x → isVar sc x = true → VarAt env s.heap x u → OwnV prog w mg P s.heap u d W → (∀ b, W b → b ≠ env.locals ∧ ∀ x, (x, b) ∉ env.cells) → G) : G := by
  obtain ⟨x', u, h1, h2, h3, h4, h5, h6⟩ := S.own
  have e : x' = x := h2.symm.trans (nmOk.d hm)
  exact k u (e ▸ h1) (e ▸ h2) (e ▸ h3) (e ▸ h4) h5 h6
theorem St.ownI {x : Str} {m c : Nat} {fs : List (Nat × D)} {M : (Addr → Prop) → Prop} (S : St prog w K mg mb h₀ env sc P W s ρ (some (m, .inst c fs))) (hm : nmOk x m = true)
    (k : ∀ a dx C n es, St prog w K mg mb h₀ env sc P (fun b => b = a ∨ b = dx) s ρ (some (m, .inst c fs)) → enc x = m → dec m = x → isVar sc x = true → VarAt env s.heap x (.ref a) → s.heap.get? a = some (instObj C dx) → s.heap.get? dx = some ⟨.type "dict", none, .dict es.toArray n, #[]⟩ → a ≠ dx → mg (dec c) = some (.ref C) → StrKs es → es.length ≤ fs.length → RelF prog w mg P s.heap ⟨.type "dict", none, .dict es.toArray n, #[]⟩ fs → (∀ p ∈ fs, enc (dec p.1) = p.1) → (fs.map (·.1)).Nodup → Only ⟨.type "dict", none, .dict es.toArray n, #[]⟩ fs → (∀ b, b = a ∨ b = dx → b ≠ env.locals ∧ ∀ x, (x, b) ∉ env.cells) → M (fun b => b = a ∨ b = dx)) : M W :=
  S.ownE hm fun u h1 h2 h3 h4 h5 h6 => OwnV.eInst (M := fun u W => VarAt env s.heap x u → (∀ b, W b → b ≠ env.locals ∧ ∀ x, (x, b) ∉ env.cells) → St prog w K mg mb h₀ env sc P W s ρ (some (m, .inst c fs)) → M W) h5
    (fun a dx C n es g1 g2 g3 g4 g5 g6 g7 g8 g9 g10 h4 h6 S => k a dx C n es S h1 h2 h3 h4 g1 g2 g3 g4 g5 g6 g7 g8 g9 g10 h6) h4 h6 S
theorem St.ownL {x : Str} {m : Nat} {l : List D} {M : (Addr → Prop) → Prop} (S : St prog w K mg mb h₀ env sc P W s ρ (some (m, .lst l))) (hm : nmOk x m = true)
    (k : ∀ a vs, St prog w K mg mb h₀ env sc P (fun b => b = a) s ρ (some (m, .lst l)) → enc x = m → dec m = x → isVar sc x = true → VarAt env s.heap x (.ref a) → s.heap.PlainList a vs.toArray → RelL prog w mg P s.heap vs l → (∀ b, b = a → b ≠ env.locals ∧ ∀ x, (x, b) ∉ env.cells) → M (fun b => b = a)) : M W :=
  S.ownE hm fun u h1 h2 h3 h4 h5 h6 => OwnV.eLst (M := fun u W => VarAt env s.heap x u → (∀ b, W b → b ≠ env.locals ∧ ∀ x, (x, b) ∉ env.cells) → St prog w K mg mb h₀ env sc P W s ρ (some (m, .lst l)) → M W) h5
    (fun a vs g1 g2 h4 h6 S => k a vs S h1 h2 h3 h4 g1 g2 h6) h4 h6 S
theorem St.aliveWr (S : St prog w K mg mb h₀ env sc P W s ρ o) : ∀ b, Wr env W b → (s.heap.get? b).isSome = true := by
  rintro b (rfl | ⟨x, hx⟩ | hb)
  · obtain ⟨m, _, _, _, e, _⟩ := S.ns; exact isSome_of e
  · obtain ⟨v, _, e, _⟩ := S.cell x b hx; exact isSome_of e
  · exact S.own.alive b hb
theorem St.good (S : St prog w K mg mb h₀ env sc P W s ρ o) : Gd K mg mb s.heap := by
  exact S.gd.keeps S.gk

theorem OwnO.mono (r : OwnO prog w mg P W env sc h o) (k : ∀ b o, h.get? b = some o → h'.get? b = some o) (kP : ∀ b o, P b → h.get? b = some o → P' b) : OwnO prog w mg P' W env sc h' o := by
  cases o with
  | none => exact r
  | some p =>
    refine hide fun Gg kg => ?_
    obtain ⟨x, v, h1, h2, h3, h4, h5, h6⟩ := r
    refine kg ?_; clear kg Gg
    exact ⟨x, v, h1, h2, h3, h4.keeps k, h5.mono (fun b o _ e => k b o e) kP, h6⟩
/-- the state goes on, the data's addresses narrowed to those that were alive -/
theorem St.mono (S : St prog w K mg mb h₀ env sc P W s ρ o) (k : Keeps s s') (kP : ∀ b o, P b → s.heap.get? b = some o → P' b) (F : FreshIn P' s'.heap) (nP : ∀ b, Wr env W b → ¬ P' b) : St prog w K mg mb h₀ env sc P' W s' ρ o := by
  have k' := kp k
  exact ⟨S.gd, fun b o e => k' b o (S.gk b o e), S.gn, F, nP, S.eo.mono k' kP, S.scope, S.ns.imp fun m e => e.keeps k', fun x c e => (S.cell x c e).imp fun v e => e.keeps k', S.apart, S.ne, S.own.mono k' kP⟩
theorem St.keeps (S : St prog w K mg mb h₀ env sc P W s ρ o) (k : Keeps s s') : St prog w K mg mb h₀ env sc P W s' ρ o :=
  S.mono k (fun _ _ p _ => p) (S.fresh.keeps (kp k)) S.nP

/-- the variables' data, the own one with them -/
noncomputable def wOwn (ρ : List (Nat × D)) (o : Option (Nat × D)) : List (Nat × D) := match o with
  | none => ρ
  | some p => p :: ρ
theorem St.ext (S : St prog w K mg mb h₀ env sc P W s ρ o) : EnvOK prog w mg (fun b => P b ∨ W b) env sc s.heap (wOwn ρ o) := by
  have e1 : EnvOK prog w mg (fun b => P b ∨ W b) env sc s.heap ρ := S.eo.mono (fun _ _ e => e) fun _ _ p _ => .inl p
  cases o with
  | none => exact e1
  | some p =>
    refine hide fun Gg kg => ?_
    obtain ⟨n, d⟩ := p
    obtain ⟨x, v, h1, h2, h3, h4, h5, h6⟩ := S.own
    refine kg ?_; clear kg Gg
    refine { e1 with var := fun y d' hy hd hl => ?_ }
    have hl : (match Nat.beq n (enc y) with | true => some d | false => look ρ (enc y)) = some d' := hl
    rw [BT.beq_eq] at hl
    by_cases q : n = enc y
    · rw [decide_eq_true q] at hl
      cases hl
      have : y = x := by rw [← hd, ← q, h2]
      subst this
      exact ⟨v, h4, h5.rel⟩
    · rw [decide_eq_false q] at hl
      exact e1.var y d' hy hd hl
theorem FreshIn.ext (F : FreshIn P h) : FreshIn (fun b => P b ∨ W b) h := fun a e => .inl (F a e)
theorem OwnO.notTup (r : OwnO prog w mg P W env sc h o) : ∀ b o, W b → h.get? b = some o → o.cls ≠ .type "tuple" ∧ o.cls ≠ .type "range" := by
  cases o with
  | none => exact fun b _ hb => absurd hb (r b)
  | some p => obtain ⟨x, v, _, _, _, _, r, _⟩ := r; exact fun b o hb e => r.notTup hb e

theorem OwnO.apart (r : OwnO prog w mg P W env sc h o) {b : Addr} (hb : W b) (q : b = env.locals ∨ ∃ x, (x, b) ∈ env.cells) : False := by
  cases o with
  | none => exact r b hb
  | some p =>
    refine hide fun Gg kg => ?_
    obtain ⟨x, v, _, _, _, _, _, h6⟩ := r
    refine kg ?_; clear kg Gg
    rcases q with q | ⟨y, q⟩
    · exact (h6 b hb).1 q
    · exact (h6 b hb).2 y q
/-- a heap that differs in one of the frame's own writable places alone -/
theorem RelV.but {a : Addr} {v : Value} {d : D} (r : RelV prog w mg P h v d) (hs : ∀ b o, b ≠ a → h.get? b = some o → h'.get? b = some o) (hn : ¬ P a) : RelV prog w mg P h' v d :=
  r.mono fun b o p e => ⟨hs b o (fun q => hn (q ▸ p)) e, p⟩
theorem RelL.but {a : Addr} {v : List Value} {d : List D} (r : RelL prog w mg P h v d) (hs : ∀ b o, b ≠ a → h.get? b = some o → h'.get? b = some o) (hn : ¬ P a) : RelL prog w mg P h' v d :=
  RelL.mono (fun b o p e => ⟨hs b o (fun q => hn (q ▸ p)) e, p⟩) r
theorem FreshIn.alive (F : FreshIn P h) (k : ∀ b, (h.get? b).isSome = true → (h'.get? b).isSome = true) : FreshIn P h' := fun a e => F a (by
  cases q : h.get? a with
  | none => rfl
  | some o => have := k a (by rw [q]; rfl); rw [e] at this; cases this)
theorem alive_but {a : Addr} (hs : Heap.SameBut a h h') (ha : (h'.get? a).isSome = true) : ∀ b, (h.get? b).isSome = true → (h'.get? b).isSome = true := fun b e => by
  by_cases q : b = a
  · subst q; exact ha
  · rw [hs.2 b q]; exact e
end

noncomputable def freeOf (o : Option (Nat × D)) (x : Nat) : Bool := match o with
  | none => true
  | some p => !(Nat.beq p.1 x)
/-- a name that the frame may store -/
noncomputable def stOk (sc : Scope) (x : Str) : Bool := (sc.names.lookup x == some .local || sc.names.lookup x == some .cell) && isVar sc x

section
variable {prog : Program} {w : World} {K : Frag} {mg mb : Str → Option Value} {P P' W W' : Addr → Prop} {A : Around} {E : Value → Shared → Prop} {s s' : Shared} {env : Env} {sc : Scope} {h h' h₀ : Heap} {ρ : List (Nat × D)} {o : Option (Nat × D)}

/-- a name is stored: all else stands -/
theorem s_storeG {x : Str} {v : Value} {Q : Unit → Shared → Prop} (S : St prog w K mg mb h₀ env sc P W s ρ o) (hx : stOk sc x = true)
    (hQ : ∀ s' a, (a = env.locals ∨ ∃ x, (x, a) ∈ env.cells) → (∃ h t, s' = { s with heap := h, toks := t }) → Heap.SameBut a s.heap s'.heap → (s'.heap.get? a).isSome = true → VarAt env s'.heap x v →
      (∀ y u, y ≠ x → VarAt env s.heap y u → VarAt env s'.heap y u) → (∃ m, s'.heap.Ns env.locals m) → (∀ y c, (y, c) ∈ env.cells → ∃ v, s'.heap.IsCell c v) → Q () s') :
    wpAny (model prog w) A (storeName env x v) Q E s := by
  simp only [stOk, Bool.and_eq_true, Bool.or_eq_true, beq_iff_eq] at hx
  have kd : env.kindOf x = sc.names.lookup x := by unfold Env.kindOf; rw [S.scope]
  have hk : env.scope.kind = .function := S.eo.kind
  obtain ⟨hx, hv⟩ := hx
  rcases hx with hl | hc
  · obtain ⟨m, hn⟩ := S.ns
    refine wpAny_storeName_local (kd.trans hl) hn (fun h' hn' hs' => hQ _ env.locals (.inl rfl) ⟨h', _, rfl⟩ hs' (by obtain ⟨_, _, _, e, _⟩ := hn'; exact isSome_of e) (.inl ⟨kd.trans hl, _, hn', by simp⟩) (fun y u hy r => ?_) ⟨_, hn'⟩ fun y c e => (S.cell y c e).imp fun v z => z.sameBut hs' (S.ne y c e)) (by rw [hk]; rfl)
    rcases r with ⟨a, m₂, b, c⟩ | ⟨a, c, b, d⟩
    · refine .inl ⟨a, _, hn', ?_⟩
      simp only [hy, if_false]
      rw [hn.agree b]; exact c
    · exact .inr ⟨a, c, b, d.sameBut hs' (S.ne _ c (PySem.mem_of_lookup b))⟩
  · obtain ⟨c, hcl⟩ := S.eo.cells x (.inl (kd.trans hc))
    have hm := PySem.mem_of_lookup hcl
    obtain ⟨v₀, hv₀⟩ := S.cell x c hm
    refine wpAny_storeName_cell hk (kd.trans hc) hcl hv₀ fun h' hc' hs' => hQ _ c (.inr ⟨x, hm⟩) ⟨h', _, rfl⟩ hs' (by obtain ⟨_, e, _⟩ := hc'; exact isSome_of e) (.inr ⟨.inl (kd.trans hc), c, hcl, hc'⟩) (fun y u hy r => ?_) ?_ fun y c' e => ?_
    · rcases r with ⟨a, m₂, b, d⟩ | ⟨a, c', b, d⟩
      · exact .inl ⟨a, m₂, b.sameBut hs' (Ne.symm (S.ne _ c hm)), d⟩
      · refine .inr ⟨a, c', b, d.sameBut hs' fun q => ?_⟩
        subst q
        exact hy (name_of_addr S.apart (PySem.mem_of_lookup b) hm)
    · obtain ⟨m, hn⟩ := S.ns
      exact ⟨m, hn.sameBut hs' (Ne.symm (S.ne _ c hm))⟩
    · by_cases q : c' = c
      · subst q; exact ⟨_, hc'⟩
      · exact (S.cell y c' e).imp fun v z => z.sameBut hs' q

theorem Step.but {a : Addr} (S : St prog w K mg mb h₀ env sc P W s ρ o) (hw : a = env.locals ∨ ∃ x, (x, a) ∈ env.cells) (e : ∃ h t, s' = { s with heap := h, toks := t }) (hs : Heap.SameBut a s.heap s'.heap) (ha : (s'.heap.get? a).isSome = true) : Step env W s W s' :=
  ⟨e, fun b o nb e => hs.extBut b o (fun q => nb (q ▸ (by rcases hw with h | h <;> first | exact .inl h | exact .inr (.inl h)))) e, alive_but hs ha, fun b w => .inl w, fun _ => rfl, fun b o w e => ⟨o, hs.extBut b o (fun q => by subst q; exact S.own.apart w hw) e, rfl⟩⟩
theorem St.gdBut {a : Addr} (S : St prog w K mg mb h₀ env sc P W s ρ o) (hw : Wr env W a) (hs : Heap.SameBut a s.heap s'.heap) :
    ∀ b o, h₀.get? b = some o → s'.heap.get? b = some o := by
  refine fun b o e => hs.extBut b o (fun q => ?_) (S.gk b o e)
  subst q
  rw [S.gn b hw] at e; cases e

theorem s_store {x : Str} {v : Value} {d : D} {Q : Unit → Shared → Prop} (S : St prog w K mg mb h₀ env sc P W s ρ o) (hx : stOk sc x = true) (hd : dec (enc x) = x) (hf : freeOf o (enc x) = true) (r : RelV prog w mg P s.heap v d)
    (hQ : ∀ s', St prog w K mg mb h₀ env sc P W s' (put ρ (enc x) d) o → Step env W s W s' → Q () s') : wpAny (model prog w) A (storeName env x v) Q E s := by
  refine s_storeG S hx fun s' a ha hsame hs haa hv hvo hns hcell => ?_
  have hw : Wr env W a := by rcases ha with h | h <;> first | exact .inl h | exact .inr (.inl h)
  have na : ¬ P a := S.nP a hw
  have hb : ∀ b o, b ≠ a → s.heap.get? b = some o → s'.heap.get? b = some o := fun b o q e => hs.extBut b o q e
  refine hQ s' ⟨S.gd, S.gdBut hw hs, S.gn, S.fresh.alive (alive_but hs haa), S.nP, ⟨S.eo.kind, S.eo.glob, S.eo.blt, fun y d' hy hyd hl => ?_, S.eo.cells, S.eo.globs, S.eo.cel⟩, S.scope, hns, hcell, S.apart, S.ne, ?_⟩ (.but S ha hsame hs haa)
  · rw [look_put] at hl
    by_cases q : enc y = enc x
    · rw [if_pos q] at hl
      cases hl
      have : y = x := by rw [← hyd, q, hd]
      subst this
      exact ⟨v, hv, r.but hb na⟩
    · rw [if_neg q] at hl
      refine hide fun Gg kg => ?_
      obtain ⟨u, h1, h2⟩ := S.eo.var y d' hy hyd hl
      refine kg ?_; clear kg Gg
      exact ⟨u, hvo y u (fun z => q (z ▸ rfl)) h1, h2.but hb na⟩
  · cases o with
    | none => exact S.own
    | some p =>
      refine hide fun Gg kg => ?_
      obtain ⟨n, d'⟩ := p
      obtain ⟨y, u, h1, h2, h3, h4, h5, h6⟩ := S.own
      refine kg ?_; clear kg Gg
      refine ⟨y, u, h1, h2, h3, hvo y u (fun z => ?_) h4, h5.mono (fun b o p e => hb b o (fun q => ?_) e) fun _ _ p _ => p, h6⟩
      · subst z
        simp [freeOf, BT.beq_eq, h1] at hf
      · subst q
        rcases p with p | p
        · exact na p
        · rcases ha with z | ⟨x, z⟩
          · exact (h6 _ p).1 z
          · exact (h6 _ p).2 x z
end
end Mine
end

section
open PySem PySem.W PyProof.Rows PySem.Calls
set_option maxRecDepth 100000
set_option genSizeOf false
namespace Mine

/-- the law's statements -/
inductive PS where
  | bad
  | asg (x : Nat) (e : PE)
  | asg2 (x y : Nat) (e : PE)
  | aug (x : Nat) (e : PE)
  | ite (t : PE) (a b : List PS)
  | ret (e : PE)
  | ret0
  | for (x : Nat) (it : PE) (body : List PS)
  | whl (t : PE) (body : List PS)
  | cont
  | app (x : Nat) (e : PE)
  | newl (x : Nat)
  | mk (x c : Nat) (l : List PE)
  | fld (x n : Nat) (e : PE)
  | mut (f x : Nat) (l : List PE)

/-- how a statement ends: the variables' data, and the one variable whose object is the frame's own -/
inductive Out where
  | next (ρ : List (Nat × D)) (o : Option (Nat × D))
  | cont (ρ : List (Nat × D)) (o : Option (Nat × D))
  | ret (d : D)

noncomputable def isNone' {α : Type} : Option α → Bool
  | none => true
  | some _ => false

noncomputable def forM (bf : List (Nat × D) → Option (Nat × D) → Option Out) (x : Nat) : List D → List (Nat × D) → Option (Nat × D) → Option Out
  | [], ρ, o => some (.next ρ o)
  | d :: r, ρ, o => if freeOf o x then match bf (put ρ x d) o with
    | some (.next ρ' o') => forM bf x r ρ' o'
    | some (.cont ρ' o') => forM bf x r ρ' o'
    | some (.ret v) => some (.ret v)
    | none => none
    else none
noncomputable def whlM (tf : List (Nat × D) → Option (Nat × D) → Option D) (bf : List (Nat × D) → Option (Nat × D) → Option Out) : Nat → List (Nat × D) → Option (Nat × D) → Option Out
  | 0, _, _ => none
  | k + 1, ρ, o => match tf ρ o with
    | some (.bool true) => match bf ρ o with
      | some (.next ρ' o') => whlM tf bf k ρ' o'
      | some (.cont ρ' o') => whlM tf bf k ρ' o'
      | some (.ret v) => some (.ret v)
      | none => none
    | some (.bool false) => some (.next ρ o)
    | _ => none

section
variable (Γ : Nat → List D → Option D) (Γm : Nat → D → List D → Option D) (isi : D → Nat → Option Bool) (kn : Nat → Bool) (fo : Nat → Nat → Bool)
  (Γk : Nat → List D → Option (List (Nat × D))) (Γu : Nat → Nat → List (Nat × D) → List D → Option (List (Nat × D)))
noncomputable def evX (e : PE) (ρ : List (Nat × D)) (o : Option (Nat × D)) : Option D := evE Γ Γm isi kn fo e (wOwn ρ o)
/-- a field of the frame's own object -/
noncomputable def ownFld (e : PE) (o : Option (Nat × D)) : Option D := match e with
  | .attr a n => match a with
    | .var x => match o with
      | some p => if Nat.beq p.1 x then attrD fo p.2 n else none
      | none => none
    | _ => none
  | _ => none
noncomputable def evP (e : PE) (ρ : List (Nat × D)) (o : Option (Nat × D)) : Option D := match evE Γ Γm isi kn fo e ρ with
  | some d => some d
  | none => match ownFld fo e o with
   | some d => some d
   | none => match evX Γ Γm isi kn fo e ρ o with
    | some d => if flat d then some d else none
    | none => none
mutual
noncomputable def evS : PS → List (Nat × D) → Option (Nat × D) → Option Out
  | .bad, _, _ => none
  | .asg x e, ρ, o => if freeOf o x then (match evP Γ Γm isi kn fo e ρ o with
    | some d => some (.next (put ρ x d) o)
    | none => none) else none
  | .asg2 x y e, ρ, o => if freeOf o x && freeOf o y && !(Nat.beq x y) then (match evP Γ Γm isi kn fo e ρ o with
    | some (.tup [a, b]) => some (.next (put (put ρ x a) y b) o)
    | _ => none) else none
  | .aug x e, ρ, o => if freeOf o x then (match look ρ x with
    | some (.str a) => match evX Γ Γm isi kn fo e ρ o with
      | some (.str b) => match binD .Add (.str a) (.str b) with
        | some d => some (.next (put ρ x d) o)
        | none => none
      | _ => none
    | _ => none) else none
  | .ite t a b, ρ, o => match evX Γ Γm isi kn fo t ρ o with
    | some (.bool true) => evB a ρ o
    | some (.bool false) => evB b ρ o
    | _ => none
  | .ret e, ρ, o => match evX Γ Γm isi kn fo e ρ o with
    | some d => some (.ret d)
    | none => none
  | .ret0, _, _ => some (.ret .none)
  | .for x it body, ρ, o => match evP Γ Γm isi kn fo it ρ o with
    | some src => match itemsD src with
      | some ds => if Nat.ble ds.length 1000 then forM (fun ρ o => evB body ρ o) x ds ρ o else none
      | none => none
    | none => none
  | .whl t body, ρ, o => whlM (fun ρ o => evX Γ Γm isi kn fo t ρ o) (fun ρ o => evB body ρ o) 8 ρ o
  | .cont, ρ, o => some (.cont ρ o)
  | .app x e, ρ, o => match o with
    | some (y, .lst l) => if Nat.beq y x && Nat.ble l.length 1000 then (match evE Γ Γm isi kn fo e ρ with
      | some d => some (.next ρ (some (y, .lst (l ++ [d]))))
      | none => none) else none
    | _ => none
  | .newl x, ρ, o => if isNone' o && isNone' (look ρ x) then some (.next ρ (some (x, .lst []))) else none
  | .mk x c l, ρ, o => if isNone' o && isNone' (look ρ x) then (match evEs Γ Γm isi kn fo l ρ with
    | some ds => match Γk c ds with
      | some fs => some (.next ρ (some (x, .inst c fs)))
      | none => none
    | none => none) else none
  | .fld x n e, ρ, o => match o with
    | some (y, .inst c fs) => if Nat.beq y x && fo c n && Nat.ble fs.length 100 then (match evP Γ Γm isi kn fo e ρ o with
      | some d => some (.next ρ (some (y, .inst c (put fs n d))))
      | none => none) else none
    | _ => none
  | .mut f x l, ρ, o => match o with
    | some (y, .inst c fs) => if Nat.beq y x then (match evEs Γ Γm isi kn fo l ρ with
      | some ds => match Γu f c fs ds with
        | some fs' => some (.next ρ (some (y, .inst c fs')))
        | none => none
      | none => none) else none
    | _ => none
noncomputable def evB : List PS → List (Nat × D) → Option (Nat × D) → Option Out
  | [], ρ, o => some (.next ρ o)
  | p :: r, ρ, o => match evS p ρ o with
    | some (.next ρ' o') => evB r ρ' o'
    | x => x
end
end
section
variable {oo z : Option Out} {f : List (Nat × D) → Option (Nat × D) → Option Out} {ρ : List (Nat × D)} {o : Option (Nat × D)} {d : D}
theorem jNx (h : oo = some (.next ρ o)) (h2 : f ρ o = z) : (match (generalizing := false) oo with | some (.next ρ' o') => f ρ' o' | x => x) = z := by subst h; exact h2
theorem jCt (h : oo = some (.cont ρ o)) : (match (generalizing := false) oo with | some (.next ρ' o') => f ρ' o' | x => x) = some (.cont ρ o) := by subst h; rfl
theorem jRt (h : oo = some (.ret d)) : (match (generalizing := false) oo with | some (.next ρ' o') => f ρ' o' | x => x) = some (.ret d) := by subst h; rfl
theorem jNo (h : oo = none) : (match (generalizing := false) oo with | some (.next ρ' o') => f ρ' o' | x => x) = none := by subst h; rfl
end
section
variable {Γ : Nat → List D → Option D} {Γm : Nat → D → List D → Option D} {isi : D → Nat → Option Bool} {kn : Nat → Bool} {fo : Nat → Nat → Bool} {ρ : List (Nat × D)} {o : Option (Nat × D)} {e : PE} {d : D}
theorem evP_e (h : evE Γ Γm isi kn fo e ρ = some d) : evP Γ Γm isi kn fo e ρ o = some d := by unfold evP; rw [h]
end

section
variable {β : Type} {d : β} {G : Prop}
theorem iSt {o : Option D} {f : Str → Option β} (h : (match o with | some (.str b) => f b | _ => none) = some d) (k : ∀ b, o = some (.str b) → f b = some d → G) : G := by
  cases o with
  | none => exact nn h
  | some x => cases x <;> first | exact k _ rfl h | exact nn h
theorem iT2 {o : Option D} {f : D → D → Option β} (h : (match o with | some (.tup [a, b]) => f a b | _ => none) = some d) (k : ∀ a b, o = some (.tup [a, b]) → f a b = some d → G) : G := by
  cases o with
  | none => exact nn h
  | some x =>
    cases x with
    | tup l =>
      cases l with
      | nil => exact nn h
      | cons a l =>
        cases l with
        | nil => exact nn h
        | cons b l =>
          cases l with
          | nil => exact k _ _ rfl h
          | cons => exact nn h
    | _ => exact nn h
theorem iOL {o : Option (Nat × D)} {f : Nat → List D → Option β} (h : (match o with | some (y, .lst l) => f y l | _ => none) = some d) (k : ∀ y l, o = some (y, .lst l) → f y l = some d → G) : G := by
  cases o with
  | none => exact nn h
  | some x => cases x with | mk y x => cases x <;> first | exact k _ _ rfl h | exact nn h
theorem iOI {o : Option (Nat × D)} {f : Nat → Nat → List (Nat × D) → Option β} (h : (match o with | some (y, .inst c fs) => f y c fs | _ => none) = some d) (k : ∀ y c fs, o = some (y, .inst c fs) → f y c fs = some d → G) : G := by
  cases o with
  | none => exact nn h
  | some x => cases x with | mk y x => cases x <;> first | exact k _ _ _ rfl h | exact nn h
theorem iFs {o : Option (List (Nat × D))} {f : List (Nat × D) → Option β} (h : (match o with | some x => f x | none => none) = some d) (k : ∀ x, o = some x → f x = some d → G) : G := by
  cases o with
  | none => exact nn h
  | some x => exact k x rfl h
theorem iEl {a b : Option D} {d : D} (h : (match a with | some d => some d | none => b) = some d) (k1 : a = some d → G) (k2 : b = some d → G) : G := by
  cases a with
  | none => exact k2 h
  | some x => exact k1 h
theorem ownFld_inv {fo : Nat → Nat → Bool} {e : PE} {o : Option (Nat × D)} {d : D} (h : ownFld fo e o = some d) (k : ∀ m n c fs, e = .attr (.var m) n → o = some (m, .inst c fs) → fo c n = true → fs.lookup n = some d → notTop d = true → G) : G := by
  cases e with
  | attr a n =>
    cases a with
    | var x =>
      cases o with
      | none => exact nn h
      | some p =>
        apply iB h; clear h; intro hb h
        apply attrD_inv h; clear h; intro c fs hp h1 h2 h3
        exact k x n c fs rfl (congrArg some (Prod.ext (Nat.eq_of_beq_eq_true hb) hp)) h1 h2 h3
    | _ => exact nn h
  | _ => exact nn h
end

noncomputable def notComp : Expr → Bool
  | .ListComp .. => false
  | .SetComp .. => false
  | .DictComp .. => false
  | _ => true
noncomputable def swapOk (value : Expr) : Bool := match value with
  | .Tuple vs _ _ => !(vs.any fun | .Starred .. => true | _ => false) && !(vs.all (foldedForSure 8)) && !(vs.all (constantsAlone 8))
  | _ => true

mutual
inductive RepS : Scope → Stmt → PS → Prop
  | bad {sc st} : RepS sc st .bad
  | asg {sc x n px e pe p} : stOk sc x = true → nmOk x n = true → notComp e = true → Rep sc e pe → RepS sc (.Assign [.Name x px] e p) (.asg n pe)
  | asgc {sc x n px e pelt mm pit pifs p} : sc.names.lookup x = some .local → isVar sc x = true → nmOk x n = true → Rep sc e (.comp pelt mm pit pifs) → RepS sc (.Assign [.Name x px] e p) (.asg n (.comp pelt mm pit pifs))
  | asg2 {sc x nx px y ny py k tp e pe p} : stOk sc x = true → nmOk x nx = true → stOk sc y = true → nmOk y ny = true → notComp e = true → swapOk e = true → Rep sc e pe → RepS sc (.Assign [.Tuple [.Name x px, .Name y py] k tp] e p) (.asg2 nx ny pe)
  | aug {sc x n px e pe p} : stOk sc x = true → nameOk x = true → nmOk x n = true → Rep sc e pe → RepS sc (.AugAssign (.Name x px) .Add e p) (.aug n pe)
  | ite {sc t pt a pa b pb p} : Rep sc t pt → RepB sc a pa → RepB sc b pb → RepS sc (.If t a b p) (.ite pt pa pb)
  | ret {sc e pe p} : Rep sc e pe → RepS sc (.Return (some e) p) (.ret pe)
  | ret0 {sc p} : RepS sc (.Return none p) .ret0
  | for {sc x n px it pit body pb p} : stOk sc x = true → nmOk x n = true → Rep sc it pit → RepB sc body pb → RepS sc (.For (.Name x px) it body [] p) (.for n pit pb)
  | whl {sc t pt body pb p} : Rep sc t pt → RepB sc body pb → RepS sc (.While t body [] p) (.whl pt pb)
  | cont {sc p} : RepS sc (.Continue p) .cont
  | app {sc x n px ap e pe q p} : isVar sc x = true → nameOk x = true → nmOk x n = true → (ap.endLine == q.line) = true → Rep sc e pe → RepS sc (.Expr (.Call (.Attribute (.Name x px) ("append" : Str) ap) [e] [] q) p) (.app n pe)
  | newl {sc x n px q p} : stOk sc x = true → nmOk x n = true → RepS sc (.Assign [.Name x px] (.List [] q) p) (.newl n)
  | mk {sc x n px c nc pc l ps q p} : stOk sc x = true → nmOk x n = true → isGlob sc c = true → nmOk c nc = true → nameOk c = true → l.length ≤ 20 → RepL sc l ps → RepS sc (.Assign [.Name x px] (.Call (.Name c pc) l [] q) p) (.mk n nc ps)
  | fld {sc x n px f nf pf e pe p} : isVar sc x = true → nameOk x = true → nmOk x n = true → nmOk f nf = true → Rep sc e pe → RepS sc (.Assign [.Attribute (.Name x px) f pf] e p) (.fld n nf pe)
  | mut {sc g n px x nx px' l ps q p} : isGlob sc g = true → nmOk g n = true → nameOk g = true → isVar sc x = true → nameOk x = true → nmOk x nx = true → l.length ≤ 20 → RepL sc l ps → RepS sc (.Expr (.Call (.Name g px) (.Name x px' :: l) [] q) p) (.mut n nx ps)
inductive RepB : Scope → List Stmt → List PS → Prop
  | nil {sc} : RepB sc [] []
  | cons {sc s ps l pl} : RepS sc s ps → RepB sc l pl → RepB sc (s :: l) (ps :: pl)
end

section
variable (prog : Program) (w : World) (K : Frag) (mg mb : Str → Option Value)
/-- a class that makes an own object -/
noncomputable def MkOK (n c : Nat) (args : List D) (fs : List (Nat × D)) : Prop :=
  ∃ v0, GlobV mg mb (dec c) v0 ∧ (∀ h, Gd K mg mb h → ∃ k, (k = Keeper.frame ∨ k = Keeper.machine ∨ k = Keeper.boundFrame) ∧ Looks (model prog w) h (keeperOf v0) k) ∧
    ∀ (P : Addr → Prop) (A : Around) (s : Shared) (vs : List Value) (E Q : Value → Shared → Prop), AOK n A → Gd K mg mb s.heap → FreshIn P s.heap → RelL prog w mg P s.heap vs args →
      (∀ v W s', Keeps s s' → OwnV prog w mg (fun b => P b ∧ ¬ W b) s'.heap v (.inst c fs) W → (∀ b, W b → s.heap.get? b = none) → Q v s') → wpAny (model prog w) A (call v0 vs) Q E s
/-- a function that turns its first argument's object -/
noncomputable def MutOK (n f c : Nat) (fs : List (Nat × D)) (args : List D) (fs' : List (Nat × D)) : Prop :=
  ∃ v0, GlobV mg mb (dec f) v0 ∧ (∀ h, Gd K mg mb h → ∃ k, (k = Keeper.frame ∨ k = Keeper.machine ∨ k = Keeper.boundFrame) ∧ Looks (model prog w) h (keeperOf v0) k) ∧
    ∀ (h₀ : Heap) (P W : Addr → Prop) (A : Around) (s : Shared) (v : Value) (vs : List Value) (E Q : Value → Shared → Prop), AOK n A → Gd K mg mb h₀ → (∀ b o, h₀.get? b = some o → s.heap.get? b = some o) → (∀ b, W b → h₀.get? b = none ∧ ¬ P b) →
      FreshIn P s.heap → OwnV prog w mg P s.heap v (.inst c fs) W → RelL prog w mg P s.heap vs args →
      (∀ s', (∃ h t, s' = { s with heap := h, toks := t }) → (∀ b o, ¬ W b → s.heap.get? b = some o → s'.heap.get? b = some o) → (∀ b, (s.heap.get? b).isSome = true → (s'.heap.get? b).isSome = true) → (∀ b o, W b → s.heap.get? b = some o → ∃ o', s'.heap.get? b = some o' ∧ o'.cls = o.cls) → OwnV prog w mg P s'.heap v (.inst c fs') W → Q .none s') →
      wpAny (model prog w) A (call v0 (v :: vs)) Q E s
/-- a class's own objects take stores plainly -/
noncomputable def ClsSet (K : Frag) (C : Addr) (n : Nat) : Prop := findIn K (.ref C) "__setattr__" = some (some (.builtin "object.__setattr__")) ∧ plainOver K C = true ∧ takerIn K C (dec n) = some none ∧ (clsIn K C).any (·.hasDict) = true

structure Orc2 (Γ : Nat → List D → Option D) (Γm : Nat → D → List D → Option D) (isi : D → Nat → Option Bool) (kn : Nat → Bool) (fo : Nat → Nat → Bool) (Γk : Nat → List D → Option (List (Nat × D))) (Γu : Nat → Nat → List (Nat × D) → List D → Option (List (Nat × D))) (n : Nat) : Prop extends Orc prog w K mg mb Γ Γm isi kn fo n where
  mkO : ∀ c ds fs, Γk c ds = some fs → MkOK prog w K mg mb n c ds fs
  mutO : ∀ f c fs ds fs', Γu f c fs ds = some fs' → MutOK prog w K mg mb n f c fs ds fs'
  setO : ∀ c C n, fo c n = true → mg (dec c) = some (.ref C) → ClsSet K C n
end


theorem isStr_str (k : Str) (t : Tok) (b : Str) : (Value.str k t).isStr b = (k == b) := rfl
theorem refKey_str (h : Int) (k : Str) (t : Tok) (v : Value) : (DictEntry.mk h (.str k t) v).refKey = false := rfl
theorem putL_keys {a : Str} {hs : Int} {t : Tok} {v : Value} : ∀ {es : List DictEntry}, StrKs es → StrKs (putL a hs (.str a t) v es)
  | [], _ => fun e he => by
    rw [putL, List.mem_singleton] at he
    subst he; exact ⟨a, t, rfl⟩
  | e :: r, hk => by
    have hr : StrKs r := fun x hx => hk x (List.mem_cons_of_mem _ hx)
    obtain ⟨k, u, hu⟩ := hk e (List.mem_cons_self ..)
    unfold putL
    split
    · intro x hx
      rcases List.mem_cons.mp hx with rfl | hx
      · exact ⟨k, u, hu⟩
      · exact hr x hx
    · intro x hx
      rcases List.mem_cons.mp hx with rfl | hx
      · exact ⟨k, u, hu⟩
      · exact putL_keys hr x hx
theorem putL_len {a : Str} {hs : Int} {k v : Value} : ∀ {es : List DictEntry}, (putL a hs k v es).length ≤ es.length + 1
  | [] => by simp [putL]
  | e :: r => by
    unfold putL
    split
    · simp
    · simp only [List.length_cons]; have := putL_len (a := a) (hs := hs) (k := k) (v := v) (es := r); omega
/-- an entry list's value -/
noncomputable def valL (b : Str) : List DictEntry → Option Value
  | [] => none
  | e :: r => if e.key.isStr b then some e.val else valL b r
theorem lookIn_val {es : List DictEntry} {n : Nat} (hk : StrKs es) (b : Str) : lookIn b (dictOf es n) = some (valL b es) := by
  unfold lookIn
  show (match es.toArray.toList.find? _ with | some e => some (some e.val) | none => if es.toArray.toList.any (·.refKey) then none else some none) = _
  rw [List.toList_toArray]
  have hr : es.any (·.refKey) = false := by
    rw [List.any_eq_false]
    intro e he
    obtain ⟨k, t, h⟩ := hk e he
    obtain ⟨h1, h2, h3⟩ := e
    dsimp only at h
    subst h
    simp [refKey_str]
  rw [hr]
  clear hr
  induction es with
  | nil => rfl
  | cons e r ih =>
    unfold valL
    rw [List.find?_cons]
    cases q : e.key.isStr b with
    | true => rfl
    | false =>
      simp only [Bool.false_eq_true, if_false]
      exact ih fun x hx => hk x (List.mem_cons_of_mem _ hx)
theorem valL_put {a b : Str} {hs : Int} {t : Tok} {v : Value} : ∀ {es : List DictEntry}, StrKs es → valL b (putL a hs (.str a t) v es) = if b = a then some v else valL b es
  | [], _ => by
    show (if (Value.str a t).isStr b = true then some v else none) = _
    rw [isStr_str]
    by_cases q : b = a
    · subst q; simp [valL]
    · have : ¬ a = b := fun e => q e.symm
      simp [q, this, valL]
  | e :: r, hk => by
    have ih := valL_put (a := a) (b := b) (hs := hs) (t := t) (v := v) (es := r) fun x hx => hk x (List.mem_cons_of_mem _ hx)
    obtain ⟨k, u, hu⟩ := hk e (List.mem_cons_self ..)
    unfold putL
    rw [hu, isStr_str]
    by_cases q : k = a
    · subst q
      simp only [beq_self_eq_true, if_true]
      show (if (Value.str k u).isStr b = true then some v else valL b r) = if b = k then some v else (if e.key.isStr b = true then some e.val else valL b r)
      rw [hu, isStr_str]
      by_cases z : b = k
      · subst z; simp
      · have : ¬ k = b := fun e => z e.symm
        simp [z, this]
    · simp only [beq_eq_false_iff_ne.mpr q, Bool.false_eq_true, if_false]
      show (if e.key.isStr b = true then some e.val else valL b (putL a hs (.str a t) v r)) = if b = a then some v else (if e.key.isStr b = true then some e.val else valL b r)
      rw [ih, hu, isStr_str]
      by_cases z : k = b
      · subst z
        simp [q]
      · simp [z]

section
variable {prog : Program} {w : World} {K : Frag} {mg mb : Str → Option Value} {P P' W W' : Addr → Prop} {A : Around} {E : Value → Shared → Prop} {s s' : Shared} {env : Env} {sc : Scope} {h h' h₀ : Heap} {ρ : List (Nat × D)} {o : Option (Nat × D)}

theorem putL_len' {a : Str} {hs : Int} {k v x : Value} : ∀ {es : List DictEntry}, valL a es = some x → (putL a hs k v es).length = es.length
  | [], e => by cases e
  | e :: r, h => by
    unfold valL at h
    unfold putL
    split
    · rfl
    · rename_i q
      rw [if_neg q] at h
      simp only [List.length_cons]; rw [putL_len' h]
theorem put_key {fs : List (Nat × D)} {m : Nat} {d : D} : (put fs m d).map (·.1) = if m ∈ fs.map (·.1) then fs.map (·.1) else fs.map (·.1) ++ [m] := by
  induction fs with
  | nil => rfl
  | cons p r ih =>
    unfold put
    rw [BT.beq_eq]
    by_cases q : p.1 = m
    · simp [q]
    · have q' : ¬ m = p.1 := fun e => q e.symm
      simp only [q, decide_false, List.map_cons, List.mem_cons, q', false_or, ih]
      split <;> rfl
theorem put_all {fs : List (Nat × D)} {m : Nat} {d : D} {p : Nat × D} (h : p ∈ put fs m d) : p ∈ fs ∨ p = (m, d) := by
  induction fs with
  | nil => exact .inr (by simpa [put] using h)
  | cons q r ih =>
    unfold put at h
    rw [BT.beq_eq] at h
    by_cases z : q.1 = m
    · rw [decide_eq_true z] at h
      rcases List.mem_cons.mp h with rfl | h
      · exact .inr rfl
      · exact .inl (List.mem_cons_of_mem _ h)
    · rw [decide_eq_false z] at h
      rcases List.mem_cons.mp h with rfl | h
      · exact .inl (List.mem_cons_self ..)
      · rcases ih h with h | h
        · exact .inl (List.mem_cons_of_mem _ h)
        · exact .inr h

theorem RelF.at {od : Obj} {fs : List (Nat × D)} (r : RelF prog w mg P h od fs) {m : Nat} (hm : m ∈ fs.map (·.1)) : ∃ v, lookIn (dec m) od = some (some v) := by
  induction fs with
  | nil => cases hm
  | cons p r' ih =>
    cases r with
    | cons e0 a b =>
      rcases List.mem_cons.mp hm with q | q
      · dsimp only at q; subst q; exact ⟨_, e0⟩
      · exact ih b q
theorem RelF.other {es : List DictEntry} {n n' m : Nat} {v : Value} {fs : List (Nat × D)} {hs : Int} {t : Tok} (hk : StrKs es) (r : RelF prog w mg P h (dictOf es n) fs) (hc : ∀ p ∈ fs, enc (dec p.1) = p.1) (hm : enc (dec m) = m) (hn : m ∉ fs.map (·.1)) :
    RelF prog w mg P h (dictOf (putL (dec m) hs (.str (dec m) t) v es) n') fs := by
  induction fs with
  | nil => exact .nil
  | cons p r' ih =>
    cases r with
    | cons e0 a b =>
      rename_i k u d0
      have hk' := putL_keys (a := dec m) (hs := hs) (t := t) (v := v) hk
      refine .cons ?_ a (ih b (fun q hq => hc q (List.mem_cons_of_mem _ hq)) fun q => hn (List.mem_cons_of_mem _ q))
      rw [lookIn_val hk', valL_put hk, if_neg (fun z => hn ?_)]
      · rw [lookIn_val hk] at e0; exact e0
      · have := hc (k, u) (List.mem_cons_self ..)
        dsimp only at this
        have : k = m := by rw [← this, z, hm]
        subst this
        exact List.mem_cons_self ..
theorem RelF.putO {es : List DictEntry} {n n' m : Nat} {v : Value} {d : D} {fs : List (Nat × D)} {hs : Int} {t : Tok} (hk : StrKs es) (r : RelF prog w mg P h (dictOf es n) fs) (hc : ∀ p ∈ fs, enc (dec p.1) = p.1) (hm : enc (dec m) = m) (hnd : (fs.map (·.1)).Nodup) (rv : RelV prog w mg P h v d) :
    RelF prog w mg P h (dictOf (putL (dec m) hs (.str (dec m) t) v es) n') (put fs m d) := by
  have hk' := putL_keys (a := dec m) (hs := hs) (t := t) (v := v) hk
  have hself : lookIn (dec m) (dictOf (putL (dec m) hs (.str (dec m) t) v es) n') = some (some v) := by rw [lookIn_val hk', valL_put hk, if_pos rfl]
  induction fs with
  | nil => exact .cons hself rv .nil
  | cons p r' ih =>
    cases r with
    | cons e0 a b =>
      rename_i k u d0
      rw [List.map_cons, List.nodup_cons] at hnd
      have hc' : ∀ p ∈ r', enc (dec p.1) = p.1 := fun q hq => hc q (List.mem_cons_of_mem _ hq)
      by_cases q : k = m
      · subst q
        have e1 : put ((k, u) :: r') k d = (k, d) :: r' := by simp [put, BT.beq_eq]
        rw [e1]
        exact .cons hself rv (RelF.other hk b hc' hm hnd.1)
      · have e1 : put ((k, u) :: r') m d = (k, u) :: put r' m d := by simp [put, BT.beq_eq, q]
        rw [e1]
        refine .cons ?_ a (ih b hc' hnd.2)
        rw [lookIn_val hk', valL_put hk, if_neg (fun z => q ?_)]
        · rw [lookIn_val hk] at e0; exact e0
        · have := hc (k, u) (List.mem_cons_self ..)
          dsimp only at this
          rw [← this, z, hm]

theorem putName_len {es : List DictEntry} {n m : Nat} {d : D} {fs : List (Nat × D)} {hs : Int} {k v : Value} (hk : StrKs es) (r : RelF prog w mg P h (dictOf es n) fs) (hl : es.length ≤ fs.length) : (putL (dec m) hs k v es).length ≤ (put fs m d).length := by
  have e := congrArg List.length (put_key (fs := fs) (m := m) (d := d))
  rw [List.length_map] at e
  by_cases q : m ∈ fs.map (·.1)
  · rw [if_pos q, List.length_map] at e
    obtain ⟨x, hx⟩ := r.at q
    rw [lookIn_val hk] at hx
    rw [putL_len' (Option.some.inj hx), e]; exact hl
  · rw [if_neg q, List.length_append, List.length_map] at e
    have := putL_len (a := dec m) (hs := hs) (k := k) (v := v) (es := es)
    simp only [List.length_singleton] at e
    omega

/-- an own object's field is stored -/
theorem s_setOwn {x dx C : Addr} {m n c : Nat} {es : List DictEntry} {fs : List (Nat × D)} {v : Value} {d : D} {Q : Unit → Shared → Prop} (X : K.In s.heap) (Y : ClsSet K C m)
    (h1 : s.heap.get? x = some (instObj C dx)) (h2 : s.heap.get? dx = some (dictOf es n)) (h3 : x ≠ dx) (h4 : mg (dec c) = some (.ref C)) (h5 : StrKs es) (h6 : es.length ≤ fs.length) (h7 : RelF prog w mg P s.heap (dictOf es n) fs) (h8 : ∀ p ∈ fs, enc (dec p.1) = p.1) (h9 : (fs.map (·.1)).Nodup) (h10 : Only (dictOf es n) fs)
    (hm : enc (dec m) = m) (hl : fs.length ≤ 100) (rv : RelV prog w mg P s.heap v d) (nP : ¬ P dx)
    (hQ : ∀ s', (∃ h t, s' = { s with heap := h, toks := t }) → Heap.SameBut dx s.heap s'.heap → (s'.heap.get? dx).isSome = true → OwnV prog w mg P s'.heap (.ref x) (.inst c (put fs m d)) (fun b => b = x ∨ b = dx) → Q () s') :
    wpAny (model prog w) A (setAttr (.ref x) (dec m) v) Q E s := by
  obtain ⟨hs1, hp, ht, hh⟩ := Y
  have I : InstAt s.heap x (instObj C dx) C (some (dictOf es n)) := ⟨h1, rfl, rfl, h2⟩
  refine set_plain X I hs1 ?_
  refine osa_open (s := { s with toks := s.toks + 1 }) X I hp ht fun b => ?_
  obtain ⟨cd, hc, hd'⟩ := any_some hh
  refine wpAny_bind (wpAny_pure (wpAny_bind (wpAny_bind (wpAny_loadPart h1 (wpAny_bind ((looks_clsIn (h := s.heap) X hc) _ _ _ _ (fun _ _ e => e) ?_))))))
  rw [hd']
  refine wpAny_pure (a := some dx) (wpAny_bind (wpAny_pure (wpAny_bind ?_)))
  unfold nsSet
  refine wpAny_bind (wpAny_bind (wpAny_askSetting (wpAny_pure (wpAny_bind (wpAny_mkText (wpAny_bind (wpAny_loadPart h2 ?_)))))))
  dsimp only
  have c : (!es.toArray.any (·.key.isStr (dec m)) && es.toArray.any (·.refKey)) = false := by
    have : es.toArray.any (·.refKey) = false := by
      rw [← Array.any_toList, List.any_eq_false]
      intro e he
      obtain ⟨k, t, h⟩ := h5 e (by simpa using he)
      obtain ⟨q1, q2, q3⟩ := e
      dsimp only at h
      subst h
      simp [refKey_str]
    rw [this, Bool.and_false]
  rw [aRefKeyMayBeTheName_at, c]
  refine wpAny_updatePart h2 ?_
  have g1 : ∀ (H : Heap), H = s.heap.update dx (Obj.putName (dec m) (PyData.keyHash w.params (dec m)) (.str (dec m) (s.toks + 1)) v) → H.get? dx = some (dictOf (putL (dec m) (PyData.keyHash w.params (dec m)) (.str (dec m) (s.toks + 1)) v es) (putN (dec m) es n)) := fun H e => by
    rw [e, Heap.get?_update_self _ h2 (by rw [putName_dict]; rfl), putName_dict]
  have g2 : ∀ (H : Heap), H = s.heap.update dx (Obj.putName (dec m) (PyData.keyHash w.params (dec m)) (.str (dec m) (s.toks + 1)) v) → Heap.SameBut dx s.heap H := fun H e => e ▸ Heap.SameBut.update ..
  have D' := g1 _ rfl
  have SB := g2 _ rfl
  have hz := putName_len (m := m) (d := d) (hs := PyData.keyHash w.params (dec m)) (k := .str (dec m) (s.toks + 1)) (v := v) h5 h7 h6
  have hz' := putL_len (a := dec m) (hs := PyData.keyHash w.params (dec m)) (k := .str (dec m) (s.toks + 1)) (v := v) (es := es)
  refine wpAny_bind (wpAny_lookBehind D' (pastItsLine_dict (by rw [List.size_toArray, sizeLine_eq]; omega)) ?_)
  refine wpAny_pure (hQ _ ⟨_, _, rfl⟩ SB (isSome_of D') (.inst (es := putL (dec m) (PyData.keyHash w.params (dec m)) (.str (dec m) (s.toks + 1)) v es) (n := putN (dec m) es n) ((SB.2 x h3).trans h1) D' h3 h4 (putL_keys h5) hz ?_ ?_ ?_ ?_))
  · have r := RelF.putO (n' := putN (dec m) es n) (hs := PyData.keyHash w.params (dec m)) (t := s.toks + 1) h5 h7 h8 hm h9 rv
    exact RelF.mono (fun b o p e => ⟨SB.extBut b o (fun q => nP (q ▸ p)) e, p⟩) r
  · intro p hp
    rcases put_all hp with hp | rfl
    · exact h8 p hp
    · exact hm
  · rw [put_key]
    split
    · exact h9
    · rename_i z
      rw [List.nodup_append]
      exact ⟨h9, by simp, fun a ha b hb => by rw [List.mem_singleton] at hb; subst hb; rintro rfl; exact z ha⟩
  · intro b hb hex
    have hself : ∃ p ∈ put fs m d, p.1 = m := by
      have : m ∈ (put fs m d).map (·.1) := by rw [put_key]; split <;> simp_all
      obtain ⟨p, hp, e⟩ := List.mem_map.mp this
      exact ⟨p, hp, e⟩
    obtain ⟨p, hp, hpm⟩ := hself
    have hbm : b ≠ dec m := fun q => hb p hp (by rw [hpm, q])
    rw [lookIn_val (putL_keys h5), valL_put h5, if_neg hbm, ← lookIn_val h5]
    refine h10 b (fun q hq => ?_) hex
    have : q.1 ∈ (put fs m d).map (·.1) := by
      rw [put_key]
      have h := List.mem_map_of_mem (f := fun y : Nat × D => y.1) hq
      split
      · exact h
      · exact List.mem_append_left _ h
    obtain ⟨q', hq', e⟩ := List.mem_map.mp this
    have := hb q' hq'
    rwa [e] at this
end
end Mine
end

section
open PySem PySem.W PyProof.Rows PySem.Calls
set_option maxRecDepth 100000
namespace Mine
section
variable {prog : Program} {w : World} {K : Frag} {mg mb : Str → Option Value} {P P' W W' : Addr → Prop} {A : Around} {E : Value → Shared → Prop} {s s' : Shared} {env : Env} {sc : Scope} {h h' h₀ : Heap} {ρ ρ' : List (Nat × D)} {o : Option (Nat × D)}

theorem St.congr (S : St prog w K mg mb h₀ env sc P W s ρ o) (e : ∀ n, look ρ n = look ρ' n) : St prog w K mg mb h₀ env sc P W s ρ' o :=
  { S with eo := { S.eo with var := fun x d h1 h2 h3 => S.eo.var x d h1 h2 ((e _).trans h3) } }

variable {Γ : Nat → List D → Option D} {Γm : Nat → D → List D → Option D} {isi : D → Nat → Option Bool} {kn : Nat → Bool} {fo : Nat → Nat → Bool} {n : Nat} {Γk : Nat → List D → Option (List (Nat × D))} {Γu : Nat → Nat → List (Nat × D) → List D → Option (List (Nat × D))}

theorem notComp_swaps {e : Expr} (h : notComp e = true) (t : Option Expr) (l : Nat) : swapsWith e t l env = pure false := by
  cases e <;> first | rfl | cases h

/-- a field of the frame's own object -/
theorem s_own (O : Orc prog w K mg mb Γ Γm isi kn fo n) {e : Expr} {m f c : Nat} {fs : List (Nat × D)} {d : D} {Q : Value → Shared → Prop} (S : St prog w K mg mb h₀ env sc P W s ρ (some (m, .inst c fs))) (r : Rep sc e (.attr (.var m) f)) (hfo : fo c f = true) (hl : fs.lookup f = some d) (ht : notTop d = true)
    (hQ : ∀ v s', Keeps s s' → RelV prog w mg P s'.heap v d → Q v s') : wpAny (model prog w) A (eval e env) Q E s := by
  obtain ⟨a, x, p, rfl, ra, hnc, hn⟩ := r.inv
  obtain ⟨y, q, rfl, hm, hok⟩ := ra.inv
  apply S.ownI hm; clear S ra r; intro a dx C n es S _ _ _ h4 g1 g2 _ g4 _ _ g7 _ _ _ _
  refine Attribute_any_ (s_var S.eo.kind h4 hok ?_) (attrNode hnc)
  obtain ⟨v, hv', rv⟩ := g7.get hl
  rw [← (nmOk.d hn)]
  exact s_attr S.good (O.fld _ _ _ hfo g4) (ox := instObj _ _) ⟨g1, rfl, rfl, g2⟩ hv' (handed_rel rv ht) fun tk => hQ _ _ (kTk s tk) (rv.keeps (kTk s tk))
/-- a statement's expression, its value's addresses not among the own ones -/
theorem s_evP (O : Orc prog w K mg mb Γ Γm isi kn fo n) {e : Expr} {pe : PE} {d : D} {Q : Value → Shared → Prop} (S : St prog w K mg mb h₀ env sc P W s ρ o) (hA : AOK n A) (r : Rep sc e pe) (ev : evP Γ Γm isi kn fo pe ρ o = some d)
    (hQ : ∀ v s', Keeps s s' → RelV prog w mg P s'.heap v d → Q v s') : wpAny (model prog w) A (eval e env) Q E s := by
  apply iEl ev
  · clear ev; intro he
    exact (mainE O r).1 env ρ P A s E Q d hA S.good S.fresh S.eo he fun v s' p => hQ v s' p.1 p.2
  · clear ev; intro ev
    apply iEl ev
    · clear ev; intro he
      apply ownFld_inv he; clear he; intro m n c fs e1 e2 hfo hl ht
      exact s_own O (e2 ▸ S) (e1 ▸ r) hfo hl ht hQ
    · clear ev; intro ev
      apply iD ev; clear ev; intro d' he ev
      apply iB ev; clear ev; intro hf ev
      refine (mainE O r).1 env _ _ A s E Q d' hA S.good S.fresh.ext S.ext he fun v s' p => hQ v s' p.1 (Option.some.inj ev ▸ RelV.flat (W := W) (fun b o hb e => ?_) p.2 hf)
      exact (S.keeps p.1).own.notTup b o hb e
theorem s_evX (O : Orc prog w K mg mb Γ Γm isi kn fo n) {e : Expr} {pe : PE} {d : D} {Q : Value → Shared → Prop} (S : St prog w K mg mb h₀ env sc P W s ρ o) (hA : AOK n A) (r : Rep sc e pe) (ev : evX Γ Γm isi kn fo pe ρ o = some d)
    (hQ : ∀ v s', Keeps s s' → RelV prog w mg (fun b => P b ∨ W b) s'.heap v d → Q v s') : wpAny (model prog w) A (eval e env) Q E s :=
  (mainE O r).1 env _ _ A s E Q d hA S.good S.fresh.ext S.ext ev fun v s' p => hQ v s' p.1 p.2
theorem s_evT (O : Orc prog w K mg mb Γ Γm isi kn fo n) {e : Expr} {pe : PE} {b : Bool} {Q : Bool → Shared → Prop} (S : St prog w K mg mb h₀ env sc P W s ρ o) (hA : AOK n A) (r : Rep sc e pe) (ev : evX Γ Γm isi kn fo pe ρ o = some (.bool b))
    (hQ : ∀ s', Keeps s s' → Q b s') : wpAny (model prog w) A (isTrue e env (eval e env)) Q E s :=
  (mainE O r).2 env _ _ A s E Q b hA S.good S.fresh.ext S.ext ev fun s' k => hQ s' k

/-- how a run of statements ends -/
noncomputable def OutOK (prog : Program) (w : World) (K : Frag) (mg mb : Str → Option Value) (h₀ : Heap) (env : Env) (sc : Scope) (P W : Addr → Prop) (s : Shared) (out : Out) (f : Flow) (s' : Shared) : Prop :=
  ∃ P' W', (∀ b, P' b → P b) ∧ Step env W s W' s' ∧ match out, f with
    | .next ρ o, .next => St prog w K mg mb h₀ env sc P' W' s' ρ o
    | .cont ρ o, .cont => St prog w K mg mb h₀ env sc P' W' s' ρ o
    | .ret d, .ret v => RelV prog w mg (fun b => P' b ∨ W' b) s'.heap v d
    | _, _ => False
theorem OutOK.tr {P₁ W₁ : Addr → Prop} {s₁ : Shared} {out : Out} {f : Flow} (hP : ∀ b, P₁ b → P b) (k : Step env W s W₁ s₁) (x : OutOK prog w K mg mb h₀ env sc P₁ W₁ s₁ out f s') : OutOK prog w K mg mb h₀ env sc P W s out f s' := by
  refine hide fun Gg kg => ?_
  obtain ⟨P', W', h1, h2, h3⟩ := x
  refine kg ?_; clear kg Gg
  exact ⟨P', W', fun b p => hP b (h1 b p), k.tr h2, h3⟩
theorem OutOK.eN {M : Flow → Prop} {f : Flow} (x : OutOK prog w K mg mb h₀ env sc P W s (.next ρ o) f s') (k : ∀ P' W' : Addr → Prop, (∀ b, P' b → P b) → Step env W s W' s' → St prog w K mg mb h₀ env sc P' W' s' ρ o → M .next) : M f := by
  obtain ⟨P', W', h1, h2, h3⟩ := x
  cases f with
  | next => exact k P' W' h1 h2 h3
  | _ => exact h3.elim
theorem OutOK.eC {M : Flow → Prop} {f : Flow} (x : OutOK prog w K mg mb h₀ env sc P W s (.cont ρ o) f s') (k : ∀ P' W' : Addr → Prop, (∀ b, P' b → P b) → Step env W s W' s' → St prog w K mg mb h₀ env sc P' W' s' ρ o → M .cont) : M f := by
  obtain ⟨P', W', h1, h2, h3⟩ := x
  cases f with
  | cont => exact k P' W' h1 h2 h3
  | _ => exact h3.elim
theorem OutOK.eR {M : Flow → Prop} {f : Flow} {d : D} (x : OutOK prog w K mg mb h₀ env sc P W s (.ret d) f s') (k : ∀ (P' W' : Addr → Prop) v, (∀ b, P' b → P b) → Step env W s W' s' → RelV prog w mg (fun b => P' b ∨ W' b) s'.heap v d → M (.ret v)) : M f := by
  obtain ⟨P', W', h1, h2, h3⟩ := x
  cases f with
  | ret v => exact k P' W' v h1 h2 h3
  | _ => exact h3.elim
/-- a body's end within a loop -/
noncomputable def NC (X : List (Nat × D) → Option (Nat × D) → Option Out) (out₁ out : Out) : Prop := match out₁ with
  | .next ρ o => X ρ o = some out
  | .cont ρ o => X ρ o = some out
  | .ret d => out = .ret d
theorem OutOK.eL {M : Flow → Prop} {f : Flow} {N : Prop} {X : List (Nat × D) → Option (Nat × D) → Option Out} {out₁ out : Out} (x : OutOK prog w K mg mb h₀ env sc P W s out₁ f s') (hx : NC X out₁ out) (hn : N → M .next) (hc : N → M .cont)
    (kN : ∀ (P' W' : Addr → Prop) ρ o, (∀ b, P' b → P b) → Step env W s W' s' → St prog w K mg mb h₀ env sc P' W' s' ρ o → X ρ o = some out → N)
    (kR : ∀ (P' W' : Addr → Prop) v d, (∀ b, P' b → P b) → Step env W s W' s' → RelV prog w mg (fun b => P' b ∨ W' b) s'.heap v d → out = .ret d → M (.ret v)) : M f := by
  cases out₁ with
  | next ρ o => exact x.eN fun P' W' h1 h2 h3 => hn (kN P' W' ρ o h1 h2 h3 hx)
  | cont ρ o => exact x.eC fun P' W' h1 h2 h3 => hc (kN P' W' ρ o h1 h2 h3 hx)
  | ret d => exact x.eR fun P' W' v h1 h2 h3 => kR P' W' v d h1 h2 h3 hx
noncomputable def StmtOK (prog : Program) (w : World) (K : Frag) (mg mb : Str → Option Value) (n : Nat) (sc : Scope) (st : Stmt) (ev : List (Nat × D) → Option (Nat × D) → Option Out) : Prop :=
  ∀ (h₀ : Heap) (env : Env) (P W : Addr → Prop) (A : Around) (s : Shared) (ρ : List (Nat × D)) (o : Option (Nat × D)) (out : Out), AOK n A → St prog w K mg mb h₀ env sc P W s ρ o → ev ρ o = some out →
    wpAny (model prog w) A (exec st env) (fun f s' => OutOK prog w K mg mb h₀ env sc P W s out f s') (fun _ _ => False) s
noncomputable def BlockOK (prog : Program) (w : World) (K : Frag) (mg mb : Str → Option Value) (n : Nat) (sc : Scope) (l : List Stmt) (ev : List (Nat × D) → Option (Nat × D) → Option Out) : Prop :=
  ∀ (h₀ : Heap) (env : Env) (P W : Addr → Prop) (A : Around) (s : Shared) (ρ : List (Nat × D)) (o : Option (Nat × D)) (out : Out), AOK n A → St prog w K mg mb h₀ env sc P W s ρ o → ev ρ o = some out →
    wpAny (model prog w) A (execs l env) (fun f s' => OutOK prog w K mg mb h₀ env sc P W s out f s') (fun _ _ => False) s

theorem o_asg (O : Orc prog w K mg mb Γ Γm isi kn fo n) {x : Str} {m : Nat} {px p : Pos} {e : Expr} {pe : PE} (hx : stOk sc x = true) (hm : nmOk x m = true) (hc : notComp e = true) (r : Rep sc e pe) :
    StmtOK prog w K mg mb n sc (.Assign [.Name x px] e p) (evS Γ Γm isi kn fo Γk Γu (.asg m pe)) := by
  intro h₀ env P W A s ρ o out hA S ev
  apply iB ev; clear ev; intro hf ev
  apply iD ev; clear ev; intro d hd ev
  have ev := Option.some.inj ev; subst ev
  refine wpAny_Assign_Name (s_evP O S hA r hd fun v s₁ k rv => ?_) (notComp_swaps hc _ _)
  rw [← nmOk.e hm] at hf ⊢
  exact s_store (S.keeps k) hx (by rw [nmOk.e hm, nmOk.d hm]) hf rv fun s₂ S₂ k₂ => ⟨P, W, fun _ p => p, (Step.of k).tr k₂, S₂⟩
theorem o_aug (O : Orc prog w K mg mb Γ Γm isi kn fo n) {x : Str} {m : Nat} {px p : Pos} {e : Expr} {pe : PE} (hx : stOk sc x = true) (hm : nmOk x m = true) (hok : nameOk x = true) (r : Rep sc e pe) :
    StmtOK prog w K mg mb n sc (.AugAssign (.Name x px) .Add e p) (evS Γ Γm isi kn fo Γk Γu (.aug m pe)) := by
  intro h₀ env P W A s ρ o out hA S ev
  apply iB ev; clear ev; intro hf ev
  apply iSt ev; clear ev; intro a ha ev
  apply iSt ev; clear ev; intro b hb ev
  apply iD ev; clear ev; intro d hd ev
  have ev := Option.some.inj ev; subst ev
  have hx' := (Bool.and_eq_true_iff.mp hx).2
  rw [← nmOk.e hm] at hf ha ⊢
  obtain ⟨u, hu, ru⟩ := S.eo.var x _ hx' (by rw [nmOk.e hm, nmOk.d hm]) ha
  refine wpAny_AugAssign_Name (load_var S.eo.kind hu hok ?_)
  refine s_evX O S hA r hb fun v s₁ k rv => ?_
  have S₁ := S.keeps k
  apply iB hd; clear hd; intro hl hd
  have hd := Option.some.inj hd; subst hd
  refine s_iadd hl (ru.keeps k) (RelV.flat (W := W) (fun b o hb e => S₁.own.notTup b o hb e) rv rfl) fun z s₂ p₂ => ?_
  exact s_store (S₁.keeps p₂.1) hx (by rw [nmOk.e hm, nmOk.d hm]) hf p₂.2 fun s₃ S₃ k₃ => ⟨P, W, fun _ p => p, (Step.of (kTr k p₂.1)).tr k₃, S₃⟩
theorem o_ret (O : Orc prog w K mg mb Γ Γm isi kn fo n) {p : Pos} {e : Expr} {pe : PE} (r : Rep sc e pe) : StmtOK prog w K mg mb n sc (.Return (some e) p) (evS Γ Γm isi kn fo Γk Γu (.ret pe)) := by
  intro h₀ env P W A s ρ o out hA S ev
  apply iD ev; clear ev; intro d hd ev
  have ev := Option.some.inj ev; subst ev
  exact wpAny_Return_some (s_evX O S hA r hd fun v s₁ k rv => ⟨P, W, fun _ p => p, .of k, rv⟩)
theorem o_ret0 {p : Pos} : StmtOK prog w K mg mb n sc (.Return none p) (evS Γ Γm isi kn fo Γk Γu .ret0) := by
  intro h₀ env P W A s ρ o out hA S ev
  have ev := Option.some.inj ev; subst ev
  exact wpAny_Return_none ⟨P, W, fun _ p => p, .rfl', .none⟩
theorem o_cont {p : Pos} : StmtOK prog w K mg mb n sc (.Continue p) (evS Γ Γm isi kn fo Γk Γu .cont) := by
  intro h₀ env P W A s ρ o out hA S ev
  have ev := Option.some.inj ev; subst ev
  exact wpAny_Continue ⟨P, W, fun _ p => p, .rfl', S⟩
theorem o_ite (O : Orc prog w K mg mb Γ Γm isi kn fo n) {t : Expr} {pt : PE} {a b : List Stmt} {pa pb : List PS} {p : Pos} (r : Rep sc t pt) (ha : BlockOK prog w K mg mb n sc a (evB Γ Γm isi kn fo Γk Γu pa)) (hb : BlockOK prog w K mg mb n sc b (evB Γ Γm isi kn fo Γk Γu pb)) :
    StmtOK prog w K mg mb n sc (.If t a b p) (evS Γ Γm isi kn fo Γk Γu (.ite pt pa pb)) := by
  intro h₀ env P W A s ρ o out hA S ev
  apply iTF ev
  · clear ev; intro ht ev
    refine wpAny_If (s_evT O S hA r ht fun s₁ k => ?_)
    rw [if_pos rfl]
    exact wpAny_mono (ha _ _ _ _ _ _ _ _ _ hA (S.keeps k) ev) (fun f s' x => x.tr (fun _ p => p) (.of k)) fun _ _ z => z
  · clear ev; intro ht ev
    refine wpAny_If (s_evT O S hA r ht fun s₁ k => ?_)
    rw [if_neg Bool.false_ne_true]
    exact wpAny_mono (hb _ _ _ _ _ _ _ _ _ hA (S.keeps k) ev) (fun f s' x => x.tr (fun _ p => p) (.of k)) fun _ _ z => z
theorem o_nil : BlockOK prog w K mg mb n sc [] (evB Γ Γm isi kn fo Γk Γu []) := by
  intro h₀ env P W A s ρ o out hA S ev
  have ev := Option.some.inj ev; subst ev
  exact wpAny_execs_nil ⟨P, W, fun _ p => p, .rfl', S⟩
section
variable {ps : PS} {pl : List PS} {ρ₁ : List (Nat × D)} {o₁ : Option (Nat × D)} {d : D}
theorem ev_none (q : evS Γ Γm isi kn fo Γk Γu ps ρ o = none) : evB Γ Γm isi kn fo Γk Γu (ps :: pl) ρ o = none := jNo q
theorem ev_next (q : evS Γ Γm isi kn fo Γk Γu ps ρ o = some (.next ρ₁ o₁)) : evB Γ Γm isi kn fo Γk Γu (ps :: pl) ρ o = evB Γ Γm isi kn fo Γk Γu pl ρ₁ o₁ := jNx q rfl
theorem ev_cont (q : evS Γ Γm isi kn fo Γk Γu ps ρ o = some (.cont ρ₁ o₁)) : evB Γ Γm isi kn fo Γk Γu (ps :: pl) ρ o = some (.cont ρ₁ o₁) := jCt q
theorem ev_ret (q : evS Γ Γm isi kn fo Γk Γu ps ρ o = some (.ret d)) : evB Γ Γm isi kn fo Γk Γu (ps :: pl) ρ o = some (.ret d) := jRt q
end
theorem o_cons {st : Stmt} {ps : PS} {l : List Stmt} {pl : List PS} (ha : StmtOK prog w K mg mb n sc st (evS Γ Γm isi kn fo Γk Γu ps)) (hb : BlockOK prog w K mg mb n sc l (evB Γ Γm isi kn fo Γk Γu pl)) :
    BlockOK prog w K mg mb n sc (st :: l) (evB Γ Γm isi kn fo Γk Γu (ps :: pl)) := by
  intro h₀ env P W A s ρ o out hA S ev
  refine wpAny_execs_cons ?_
  cases q : evS Γ Γm isi kn fo Γk Γu ps ρ o with
  | none => exact nn ((ev_none q).symm.trans ev)
  | some out₁ =>
    refine wpAny_mono (ha _ _ _ _ _ _ _ _ _ hA S q) (fun f s₁ x => ?_) fun _ _ z => z
    cases out₁ with
    | next ρ₁ o₁ => apply x.eN; intro P₁ W₁ h1 h2 h3; exact wpAny_mono (hb _ _ _ _ _ _ _ _ _ hA h3 ((ev_next q).symm.trans ev)) (fun f s' x => x.tr h1 h2) fun _ _ z => z
    | cont ρ₁ o₁ => apply x.eC; intro P₁ W₁ h1 h2 h3; have e := Option.some.inj ((ev_cont q).symm.trans ev); subst e; exact ⟨P₁, W₁, h1, h2, h3⟩
    | ret d => apply x.eR; intro P₁ W₁ v h1 h2 h3; have e := Option.some.inj ((ev_ret q).symm.trans ev); subst e; exact ⟨P₁, W₁, h1, h2, h3⟩

theorem RelL.two {vs : List Value} {a b : D} (r : RelL prog w mg P h vs [a, b]) : ∃ u v, vs = [u, v] ∧ RelV prog w mg P h u a ∧ RelV prog w mg P h v b := by
  apply RelL.eCons r
  intro u _ ra r
  apply RelL.eCons r
  intro v _ rb r
  apply RelL.eNil r
  exact ⟨_, _, rfl, ra, rb⟩
theorem ite2 {α : Type} {c : Prop} [Decidable c] {a b x y : α} (ha : c → a = x ∨ a = y) (hb : ¬ c → b = x ∨ b = y) : (if c then a else b) = x ∨ (if c then a else b) = y := by
  by_cases h : c
  · rw [if_pos h]; exact ha h
  · rw [if_neg h]; exact hb h
noncomputable def nm2 (q1 q2 : Bool) (x y : Str) : List Str := [if q1 then some x else none, if q2 then some y else none].filterMap id
theorem names2 {x y : Str} : ∀ q1 q2 : Bool, ¬ (((nm2 q1 q2 x y).length != 2 || (nm2 q1 q2 x y).eraseDups.length != (nm2 q1 q2 x y).length) = true) → nm2 q1 q2 x y = [x, y]
  | true, true, _ => rfl
  | true, false, h => absurd rfl h
  | false, true, h => absurd rfl h
  | false, false, h => absurd rfl h
theorem swapped2 {x y : Str} {px py tp : Pos} {k : Nat} {e : Expr} (hxy : x ≠ y) (hsw : swapOk e = true) : swappedStores [.Tuple [.Name x px, .Name y py] k tp] e env = pure none ∨ swappedStores [.Tuple [.Name x px, .Name y py] k tp] e env = pure (some [x, y]) := by
  cases e with
  | Tuple vs kk pp =>
    have h3 := (Bool.and_eq_true_iff.mp hsw).2
    refine ite2 (fun _ => .inl rfl) fun _ => ite2 (fun _ => .inl rfl) fun _ => ite2 (fun _ => .inl rfl) fun hn => ite2 (fun _ => .inl rfl) fun _ => ite2 (fun c => ?_) fun _ => .inr (congrArg (fun l => pure (some l)) (names2 _ _ hn))
    rw [c] at h3; exact nf h3
  | _ => exact .inl rfl
/-- two targets at once -/
theorem o_asg2 (O : Orc prog w K mg mb Γ Γm isi kn fo n) {x y : Str} {mx my : Nat} {px py p tp : Pos} {k : Nat} {e : Expr} {pe : PE} (hx : stOk sc x = true) (hmx : nmOk x mx = true) (hy : stOk sc y = true) (hmy : nmOk y my = true) (hc : notComp e = true) (hsw : swapOk e = true) (r : Rep sc e pe) :
    StmtOK prog w K mg mb n sc (.Assign [.Tuple [.Name x px, .Name y py] k tp] e p) (evS Γ Γm isi kn fo Γk Γu (.asg2 mx my pe)) := by
  intro h₀ env P W A s ρ o out hA S ev
  apply iB ev; clear ev; intro hf ev
  simp only [Bool.and_eq_true, Bool.not_eq_true', BT.beq_eq, decide_eq_false_iff_not] at hf
  refine hide fun Gg kg => ?_
  obtain ⟨⟨hfx, hfy⟩, hxy⟩ := hf
  refine kg ?_; clear kg Gg
  apply iT2 ev; clear ev; intro a b hd ev
  · have ev := Option.some.inj ev; subst ev
    rw [← nmOk.e hmx, ← nmOk.e hmy] at hxy
    rw [← nmOk.e hmx] at hfx ⊢
    rw [← nmOk.e hmy] at hfy ⊢
    have hdx : dec (enc x) = x := by rw [nmOk.e hmx, nmOk.d hmx]
    have hdy : dec (enc y) = y := by rw [nmOk.e hmy, nmOk.d hmy]
    have hs : swapsWithSole [.Tuple [.Name x px, .Name y py] k tp] e p.line env = pure false := by
      unfold swapsWithSole; exact notComp_swaps hc _ _
    have hw : swappedStores [.Tuple [.Name x px, .Name y py] k tp] e env = pure none ∨ swappedStores [.Tuple [.Name x px, .Name y py] k tp] e env = pure (some [x, y]) := swapped2 (fun q => hxy (by rw [q])) hsw
    rcases hw with hw | hw
    · refine Assign_Tuple (s_evP O S hA r hd fun v s₁ k₁ rv => ?_) hs hw
      apply RelV.eTup rv; clear rv; intro _ _ hp ht rl nd
      refine hide fun Gg kg => ?_
      obtain ⟨u, v, rfl, ra, rb⟩ := rl.two
      refine kg ?_; clear kg Gg
      refine assign_Tuple_tuple hA.1 ht rfl rfl fun h' he => ?_
      have kk : Keeps s₁ { s₁ with heap := h' } := ⟨h', s₁.toks, rfl, fun b o e => he b o (Nat.ne_of_lt (Heap.lt_size e)) e⟩
      show wpAny (model prog w) A (assignInOrder [assign (.Name x px) env, assign (.Name y py) env] [u, v]) _ _ _
      refine wpAny_assignInOrder_more (wpAny_assign_Name (s_store ((S.keeps k₁).keeps kk) hx hdx hfx (ra.keeps kk) fun s₂ S₂ k₂ => ?_))
      refine wpAny_assignInOrder_more (wpAny_assign_Name (s_store (d := b) S₂ hy hdy hfy ?_ fun s₃ S₃ k₃ => ?_))
      · exact (rb.keeps kk).mono fun b o p e => ⟨k₂.kept b o (fun w => S.nP b w p) e, p⟩
      · exact wpAny_assignInOrder_none ⟨P, W, fun _ p => p, (Step.of (kTr k₁ kk)).tr (k₂.tr k₃), S₃⟩
    · refine Assign_Tuple_swapped (names := [x, y]) (s_evP O S hA r hd fun v s₁ k₁ rv => ?_) hs hw
      apply RelV.eTup rv; clear rv; intro _ _ hp ht rl nd
      refine hide fun Gg kg => ?_
      obtain ⟨u, v, rfl, ra, rb⟩ := rl.two
      refine kg ?_; clear kg Gg
      show wpAny (model prog w) A (unpackItems (.ref _) ([u, v].toArray).size none) _ _ _
      refine unpackItems_tuple hA.1 ht fun h' he => ?_
      have kk : Keeps s₁ { s₁ with heap := h' } := ⟨h', s₁.toks, rfl, fun b o e => he b o (Nat.ne_of_lt (Heap.lt_size e)) e⟩
      show wpAny (model prog w) A (assignInOrder [bindName env y, bindName env x] [v, u]) _ _ _
      refine wpAny_assignInOrder_more (bindName_ (s_store ((S.keeps k₁).keeps kk) hy hdy hfy (rb.keeps kk) fun s₂ S₂ k₂ => ?_))
      refine wpAny_assignInOrder_more (bindName_ (s_store (d := a) S₂ hx hdx hfx ?_ fun s₃ S₃ k₃ => ?_))
      · exact (ra.keeps kk).mono fun b o p e => ⟨k₂.kept b o (fun w => S.nP b w p) e, p⟩
      · refine wpAny_assignInOrder_none ⟨P, W, fun _ p => p, (Step.of (kTr k₁ kk)).tr (k₂.tr k₃), S₃.congr fun m => ?_⟩
        simp only [look_put]
        by_cases q1 : m = enc x
        · subst q1; simp [hxy]
        · by_cases q2 : m = enc y
          · subst q2; simp [q1]
          · simp [q1, q2]
end
end Mine
end

section
open PySem PySem.W PyProof.Rows PySem.Calls
set_option maxRecDepth 100000
namespace Mine
section
variable {prog : Program} {w : World} {K : Frag} {mg mb : Str → Option Value} {P P' W W' : Addr → Prop} {A : Around} {E : Value → Shared → Prop} {s s' : Shared} {env : Env} {sc : Scope} {h h' h₀ : Heap} {ρ ρ' : List (Nat × D)} {o : Option (Nat × D)}
variable {Γ : Nat → List D → Option D} {Γm : Nat → D → List D → Option D} {isi : D → Nat → Option Bool} {kn : Nat → Bool} {fo : Nat → Nat → Bool} {n : Nat} {Γk : Nat → List D → Option (List (Nat × D))} {Γu : Nat → Nat → List (Nat × D) → List D → Option (List (Nat × D))}

theorem look_none {ρ : List (Nat × D)} {x : Nat} (h : isNone' (look ρ x) = true) : look ρ x = none := by
  cases q : look ρ x with
  | none => rfl
  | some d => rw [q] at h; first | exact nn h | exact nf h
theorem none_of {α : Type} {o : Option α} (h : isNone' o = true) : o = none := by
  cases o with
  | none => rfl
  | some d => first | exact nn h | exact nf h

/-- a name takes the frame's own object -/
theorem s_storeOwn {x : Str} {v : Value} {d : D} {Q : Unit → Shared → Prop} (S : St prog w K mg mb h₀ env sc P (fun _ => False) s ρ none) (hx : stOk sc x = true) (hd : dec (enc x) = x) (hl : look ρ (enc x) = none)
    (r : OwnV prog w mg P s.heap v d W) (hW : ∀ b, W b → h₀.get? b = none ∧ ¬ P b ∧ b ≠ env.locals ∧ ∀ x, (x, b) ∉ env.cells)
    (hQ : ∀ s', St prog w K mg mb h₀ env sc P W s' ρ (some (enc x, d)) → Step env W s W s' → Q () s') : wpAny (model prog w) A (storeName env x v) Q E s := by
  refine s_storeG S hx fun s' a ha hsame hs haa hv hvo hns hcell => ?_
  have hw : Wr env (fun _ => False) a := by rcases ha with h | h <;> first | exact .inl h | exact .inr (.inl h)
  have hw' : Wr env W a := by rcases ha with h | h <;> first | exact .inl h | exact .inr (.inl h)
  have na : ¬ P a := S.nP a hw
  have nW : ¬ W a := fun q => by
    rcases ha with z | ⟨y, z⟩
    · exact (hW a q).2.2.1 z
    · exact (hW a q).2.2.2 y z
  have hb : ∀ b o, b ≠ a → s.heap.get? b = some o → s'.heap.get? b = some o := fun b o q e => hs.extBut b o q e
  simp only [stOk, Bool.and_eq_true] at hx
  refine hQ s' ⟨S.gd, S.gdBut hw hs, fun b z => ?_, S.fresh.alive (alive_but hs haa), fun b z => ?_, ⟨S.eo.kind, S.eo.glob, S.eo.blt, fun y d' hy hyd hl' => ?_, S.eo.cells, S.eo.globs, S.eo.cel⟩, S.scope, hns, hcell, S.apart, S.ne, ?_⟩ ?_
  · rcases z with z | z | z
    · exact S.gn b (.inl z)
    · exact S.gn b (.inr (.inl z))
    · exact (hW b z).1
  · rcases z with z | z | z
    · exact S.nP b (.inl z)
    · exact S.nP b (.inr (.inl z))
    · exact (hW b z).2.1
  · refine hide fun Gg kg => ?_
    obtain ⟨u, h1, h2⟩ := S.eo.var y d' hy hyd hl'
    refine kg ?_; clear kg Gg
    exact ⟨u, hvo y u (fun z => by subst z; rw [hl] at hl'; cases hl') h1, h2.but hb na⟩
  · refine ⟨x, v, rfl, hd, hx.2, hv, r.mono (fun b o p e => hb b o (fun q => ?_) e) fun _ _ p _ => p, fun b q => (hW b q).2.2⟩
    subst q
    rcases p with p | p
    · exact na p
    · exact nW p
  · exact ⟨hsame, fun b o nb e => hs.extBut b o (fun q => nb (q ▸ hw')) e, alive_but hs haa, fun b w => .inl w, fun _ => rfl, fun b o w e => ⟨o, hb b o (fun q => nW (q ▸ w)) e, rfl⟩⟩

theorem fresh_apart (S : St prog w K mg mb h₀ env sc P W' s ρ o) {b : Addr} (e : s.heap.get? b = none) : h₀.get? b = none ∧ b ≠ env.locals ∧ ∀ x, (x, b) ∉ env.cells := by
  refine ⟨?_, ?_, fun x hx => ?_⟩
  · cases q : h₀.get? b with
    | none => rfl
    | some o => rw [S.gk b o q] at e; first | exact nn e | exact nf e | exact ns e
  · rintro rfl
    have := S.aliveWr _ (.inl rfl)
    rw [e] at this; first | exact nn this | exact nf this
  · have := S.aliveWr _ (.inr (.inl ⟨x, hx⟩))
    rw [e] at this; first | exact nn this | exact nf this

/-- the state behind a step that made an own object's addresses -/
theorem St.apartW (S : St prog w K mg mb h₀ env sc P (fun _ => False) s ρ none) (k : Keeps s s') (hW : ∀ b, W b → s.heap.get? b = none) (ha : ∀ b, W b → (s'.heap.get? b).isSome = true) :
    St prog w K mg mb h₀ env sc (fun b => P b ∧ ¬ W b) (fun _ => False) s' ρ none ∧ ∀ b, W b → h₀.get? b = none ∧ ¬ (P b ∧ ¬ W b) ∧ b ≠ env.locals ∧ ∀ x, (x, b) ∉ env.cells := by
  refine ⟨S.mono k (fun b o p e => ⟨p, fun q => by rw [hW b q] at e; cases e⟩) (fun b e => ⟨(S.fresh.keeps (kp k)) b e, fun q => by have := ha b q; rw [e] at this; cases this⟩) (fun b z q => S.nP b z q.1), fun b q => ?_⟩
  refine hide fun Gg kg => ?_
  obtain ⟨h1, h2, h3⟩ := fresh_apart S (hW b q)
  refine kg ?_; clear kg Gg
  exact ⟨h1, fun z => z.2 q, h2, h3⟩

theorem o_newl {x : Str} {m : Nat} {px q p : Pos} (hx : stOk sc x = true) (hm : nmOk x m = true) : StmtOK prog w K mg mb n sc (.Assign [.Name x px] (.List [] q) p) (evS Γ Γm isi kn fo Γk Γu (.newl m)) := by
  intro h₀ env P W A s ρ o out hA S ev
  apply iB ev; clear ev; intro hc ev
  · have ev := Option.some.inj ev; subst ev
    simp only [Bool.and_eq_true] at hc
    have ho := none_of hc.1
    subst ho
    have hl := look_none hc.2
    have hW0 : W = fun _ => False := by funext b; exact eq_false (S.own b)
    subst hW0
    refine wpAny_Assign_Name (wpAny_List (Calls.spliced_nil ⟨by simp, ?_⟩)) (by rfl)
    have k := kPush s { cls := .type "list", data := .seq ([] : List Value).toArray } s.toks
    have hget : (s.heap.push { cls := .type "list", data := .seq ([] : List Value).toArray }).get? s.heap.objs.size = some { cls := .type "list", data := .seq ([] : List Value).toArray } := Heap.get?_push_size _ rfl
    obtain ⟨S', hW⟩ := St.apartW (W := fun b => b = s.heap.objs.size) S k (fun b q => by subst q; exact get_size _) (fun b q => by subst q; exact isSome_of hget)
    rw [← nmOk.e hm] at hl ⊢
    refine s_storeOwn (d := .lst []) S' hx (by rw [nmOk.e hm, nmOk.d hm]) hl (.lst ⟨_, hget⟩ .nil) hW fun s₂ S₂ k₂ => ⟨_, _, fun b p => p.1, ⟨?_, ?_, ?_, ?_, fun h => h.elim fun _ h => h.elim, fun _ _ h => h.elim⟩, S₂⟩
    · obtain ⟨h, t, rfl⟩ := k₂.same; exact ⟨h, t, rfl⟩
    · intro b o nb e
      refine k₂.kept b o (fun z => nb ?_) (kp k b o e)
      rcases z with z | z | z
      · exact .inl z
      · exact .inr (.inl z)
      · subst z; rw [get_size] at e; exact nn e
    · intro b e
      obtain ⟨o, ho⟩ := Option.isSome_iff_exists.mp e
      exact k₂.alive b (isSome_of (kp k b o ho))
    · rintro b rfl; exact .inr (get_size _)

theorem o_mk (O : Orc2 prog w K mg mb Γ Γm isi kn fo Γk Γu n) {x c : Str} {m nc : Nat} {px pc q p : Pos} {l : List Expr} {ps : List PE} (hx : stOk sc x = true) (hm : nmOk x m = true) (hg : isGlob sc c = true) (hn : nmOk c nc = true) (hok : nameOk c = true) (hlen : l.length ≤ 20) (r : RepL sc l ps) :
    StmtOK prog w K mg mb n sc (.Assign [.Name x px] (.Call (.Name c pc) l [] q) p) (evS Γ Γm isi kn fo Γk Γu (.mk m nc ps)) := by
  intro h₀ env P W A s ρ o out hA S ev
  apply iB ev; clear ev; intro hc ev
  · simp only [Bool.and_eq_true] at hc
    have ho := none_of hc.1
    subst ho
    have hl := look_none hc.2
    have hW0 : W = fun _ => False := by funext b; exact eq_false (S.own b)
    subst hW0
    apply iL ev; clear ev; intro ds hds ev
    apply iFs ev; clear ev; intro fs hfs ev
    · have ev := Option.some.inj ev; subst ev
      refine hide fun Gg kg => ?_
      obtain ⟨v0, hgl, hk, hc⟩ := O.mkO _ _ _ hfs
      refine kg ?_; clear kg Gg
      refine wpAny_Assign_Name (wpAny_Call_ofName (s_glob S.good S.eo.kind S.eo.glob S.eo.blt (S.eo.globs _ (isGlob_look hg)) ((nmOk.d hn) ▸ hgl) hok ?_)) (by rfl)
      refine callWith_of (P := Gd K mg mb) (by rw [star_plain r]; rfl) hk (args_rep r ((mainL O.toOrc r).1 env ρ P A s _ _ ds _ hA S.good S.fresh S.eo hds fun vs s₁ k rl => ⟨S.good.keeps (kp k), ?_⟩))
      have S₁ := S.keeps k
      refine hc P A s₁ vs _ _ hA S₁.good S₁.fresh rl fun v W s₂ k₂ hv hW => ?_
      obtain ⟨S', hW'⟩ := St.apartW (W := W) S₁ k₂ hW hv.alive
      rw [← nmOk.e hm] at hl ⊢
      refine s_storeOwn S' hx (by rw [nmOk.e hm, nmOk.d hm]) hl hv hW' fun s₃ S₃ k₃ => ⟨_, _, fun b p => p.1, ⟨?_, ?_, ?_, ?_, fun h => h.elim fun _ h => h.elim, fun _ _ h => h.elim⟩, S₃⟩
      · refine hide fun Gg kg => ?_
        obtain ⟨h, t, rfl⟩ := k₃.same
        obtain ⟨h', t', rfl, _⟩ := kTr k k₂
        refine kg ?_; clear kg Gg
        exact ⟨h, t, rfl⟩
      · intro b o nb e
        refine k₃.kept b o (fun z => nb ?_) (kp k₂ b o (kp k b o e))
        rcases z with z | z | z
        · exact .inl z
        · exact .inr (.inl z)
        · have := hW b z; rw [kp k b o e] at this; exact ns this
      · intro b e
        obtain ⟨o, ho⟩ := Option.isSome_iff_exists.mp e
        exact k₃.alive b (isSome_of (kp k₂ b o (kp k b o ho)))
      · intro b z
        refine .inr ?_
        cases q : s.heap.get? b with
        | none => rfl
        | some o => have := hW b z; rw [kp k b o q] at this; exact ns this

/-- the own object's state behind a store into it -/
theorem St.own' {m : Nat} {d d' : D} (S : St prog w K mg mb h₀ env sc P W s ρ (some (m, d))) (hsame : ∃ h t, s' = { s with heap := h, toks := t }) (hkept : ∀ b o, ¬ W b → s.heap.get? b = some o → s'.heap.get? b = some o)
    (hal : ∀ b, (s.heap.get? b).isSome = true → (s'.heap.get? b).isSome = true) {x : Str} {v : Value} (h1 : enc x = m) (h2 : dec m = x) (h3 : isVar sc x = true) (h4 : VarAt env s.heap x v)
    (h6 : ∀ b, W b → b ≠ env.locals ∧ ∀ x, (x, b) ∉ env.cells) (hv : OwnV prog w mg P s'.heap v d' W) : St prog w K mg mb h₀ env sc P W s' ρ (some (m, d')) := by
  have nWP : ∀ b, P b → ¬ W b := fun b p q => S.nP b (.inr (.inr q)) p
  have va : ∀ {y u}, VarAt env s.heap y u → VarAt env s'.heap y u := fun {y u} r => by
    rcases r with ⟨a, m, b, c⟩ | ⟨a, c, b, d⟩
    · exact .inl ⟨a, m, b.at' fun o e => hkept _ o (fun q => (h6 _ q).1 rfl) e, c⟩
    · refine hide fun Gg kg => ?_
      obtain ⟨oc, hoc, hd⟩ := d
      refine kg ?_; clear kg Gg
      exact .inr ⟨a, c, b, oc, hkept _ _ (fun q => (h6 _ q).2 _ (PySem.mem_of_lookup b)) hoc, hd⟩
  refine ⟨S.gd, fun b o e => hkept b o (fun q => ?_) (S.gk b o e), S.gn, S.fresh.alive hal, S.nP, ⟨S.eo.kind, S.eo.glob, S.eo.blt, fun y d'' hy hyd hl => ?_, S.eo.cells, S.eo.globs, S.eo.cel⟩, S.scope, ?_, fun y c hc => ?_, S.apart, S.ne, x, v, h1, h2, h3, va h4, hv, h6⟩
  · rw [S.gn b (.inr (.inr q))] at e; exact nn e
  · refine hide fun Gg kg => ?_
    obtain ⟨u, a, b⟩ := S.eo.var y d'' hy hyd hl
    refine kg ?_; clear kg Gg
    exact ⟨u, va a, b.mono fun b o p e => ⟨hkept b o (nWP b p) e, p⟩⟩
  · obtain ⟨m, hn⟩ := S.ns
    exact ⟨m, hn.at' fun o e => hkept _ o (fun q => (h6 _ q).1 rfl) e⟩
  · refine hide fun Gg kg => ?_
    obtain ⟨u, oc, hoc, hd⟩ := S.cell y c hc
    refine kg ?_; clear kg Gg
    exact ⟨u, oc, hkept _ _ (fun q => (h6 _ q).2 _ hc) hoc, hd⟩
theorem Step.own' (hsame : ∃ h t, s' = { s with heap := h, toks := t }) (hkept : ∀ b o, ¬ W b → s.heap.get? b = some o → s'.heap.get? b = some o)
    (hal : ∀ b, (s.heap.get? b).isSome = true → (s'.heap.get? b).isSome = true) (hcls : ∀ b o, W b → s.heap.get? b = some o → ∃ o', s'.heap.get? b = some o' ∧ o'.cls = o.cls) : Step env W s W s' := ⟨hsame, fun b o nb e => hkept b o (fun q => nb (.inr (.inr q))) e, hal, fun b q => .inl q, fun _ => rfl, hcls⟩

theorem OwnV.dictCls {x dx C : Addr} {c : Nat} {fs : List (Nat × D)} (r : OwnV prog w mg P h' (.ref x) (.inst c fs) (fun b => b = x ∨ b = dx)) (hne : x ≠ dx) (_ : ∀ b, b ≠ dx → h'.get? b = h.get? b) (hx : h.get? x = some (instObj C dx)) : ∃ o', h'.get? dx = some o' ∧ o'.cls = .type "dict" := by
  refine OwnV.eInst (M := fun v W => v = .ref x → W = (fun b => b = x ∨ b = dx) → ∃ o', h'.get? dx = some o' ∧ o'.cls = .type "dict") r (fun x' dx' C n es _ h2 h3 _ _ _ _ _ _ _ hv hW => ?_) rfl rfl
  cases hv
  have : (dx' = x ∨ dx' = dx') = (dx' = x ∨ dx' = dx) := congrFun hW dx'
  rcases this.mp (.inr rfl) with q | q
  · exact absurd q.symm h3
  · subst q; exact ⟨_, h2, rfl⟩
theorem o_fld (O : Orc2 prog w K mg mb Γ Γm isi kn fo Γk Γu n) {x f : Str} {m nf : Nat} {px pf p : Pos} {e : Expr} {pe : PE} (hx : isVar sc x = true) (hok : nameOk x = true) (hm : nmOk x m = true) (hf : nmOk f nf = true) (r : Rep sc e pe) :
    StmtOK prog w K mg mb n sc (.Assign [.Attribute (.Name x px) f pf] e p) (evS Γ Γm isi kn fo Γk Γu (.fld m nf pe)) := by
  intro h₀ env P W A s ρ o out hA S ev
  apply iOI ev; clear ev; intro y c fs ho ev
  subst ho
  apply iB ev; clear ev; intro hc ev
  have hc1 := Bool.and_eq_true_iff.mp hc; clear hc
  have hc2 := Bool.and_eq_true_iff.mp hc1.1
  have hy := Nat.eq_of_beq_eq_true hc2.1
  subst hy
  apply iD ev; clear ev; intro d hd ev
  have ev := Option.some.inj ev; subst ev
  refine plainObj_wpAny_Assign_Attribute (s_evP O.toOrc S hA r hd fun v s₁ k rv => ?_) (by cases e <;> rfl)
  have S₁ := S.keeps k
  clear S
  apply S₁.ownI hm; clear S₁; intro a dx C n es S₁ h1 h2 h3 h4 g1 g2 g3 g4 g5 g6 g7 g8 g9 g10 h6
  refine s_var S₁.eo.kind h4 hok ?_
  rw [← nmOk.d hf]
  refine s_setOwn S₁.good.X (O.setO _ _ _ hc2.2 g4) g1 g2 g3 g4 g5 g6 g7 g8 g9 g10 (by rw [nmOk.d hf, nmOk.e hf]) (Nat.le_of_ble_eq_true hc1.2) rv (S₁.nP _ (.inr (.inr (.inr rfl)))) fun s₂ hsame hs ha hv => ?_
  have hkept : ∀ b o, ¬ (b = a ∨ b = dx) → s₁.heap.get? b = some o → s₂.heap.get? b = some o := fun b o nb e => hs.extBut b o (fun q => nb (.inr q)) e
  have hcls : ∀ b o, (b = a ∨ b = dx) → s₁.heap.get? b = some o → ∃ o', s₂.heap.get? b = some o' ∧ o'.cls = o.cls := fun b o hb e => by
    rcases hb with rfl | rfl
    · exact ⟨o, hs.extBut b o g3 e, rfl⟩
    · rw [g2] at e
      have e := Option.some.inj e; subst e
      exact hv.dictCls g3 hs.2 g1
  exact ⟨P, _, fun _ p => p, (Step.of k).tr (Step.own' hsame hkept (alive_but hs ha) hcls), S₁.own' hsame hkept (alive_but hs ha) h1 h2 h3 h4 h6 hv⟩
end
end Mine
end

section
open PySem PySem.W PyProof.Rows PySem.Calls
set_option maxRecDepth 100000
namespace Mine
section
variable {prog : Program} {w : World} {K : Frag} {mg mb : Str → Option Value} {P P' W W' : Addr → Prop} {A : Around} {E : Value → Shared → Prop} {s s' : Shared} {env : Env} {sc : Scope} {h h' h₀ : Heap} {ρ ρ' : List (Nat × D)} {o : Option (Nat × D)}
variable {Γ : Nat → List D → Option D} {Γm : Nat → D → List D → Option D} {isi : D → Nat → Option Bool} {kn : Nat → Bool} {fo : Nat → Nat → Bool} {n : Nat} {Γk : Nat → List D → Option (List (Nat × D))} {Γu : Nat → Nat → List (Nat × D) → List D → Option (List (Nat × D))}

/-- a place that is none of the state's -/
theorem St.butA {a : Addr} (S : St prog w K mg mb h₀ env sc P W s ρ o) (hk : ∀ b o, b ≠ a → s.heap.get? b = some o → s'.heap.get? b = some o) (nP : ¬ P a) (nW : ¬ Wr env W a) (n0 : h₀.get? a = none)
    (hP : ∀ b, P b → P' b) (F : FreshIn P' s'.heap) (nP' : ∀ b, Wr env W b → ¬ P' b) : St prog w K mg mb h₀ env sc P' W s' ρ o := by
  have va : ∀ {y u}, VarAt env s.heap y u → VarAt env s'.heap y u := fun {y u} r => by
    rcases r with ⟨a', m, b, c⟩ | ⟨a', c, b, d⟩
    · exact .inl ⟨a', m, b.at' fun o e => hk _ o (fun q => nW (.inl q.symm)) e, c⟩
    · refine hide fun Gg kg => ?_
      obtain ⟨oc, hoc, hd⟩ := d
      refine kg ?_; clear kg Gg
      exact .inr ⟨a', c, b, oc, hk _ _ (fun q => nW (.inr (.inl ⟨y, q ▸ PySem.mem_of_lookup b⟩))) hoc, hd⟩
  have rp : ∀ {u d}, RelV prog w mg P s.heap u d → RelV prog w mg P' s'.heap u d := fun r => r.mono fun b o p e => ⟨hk b o (fun q => nP (q ▸ p)) e, hP b p⟩
  refine ⟨S.gd, fun b o e => hk b o (fun q => ?_) (S.gk b o e), S.gn, F, nP', ⟨S.eo.kind, S.eo.glob, S.eo.blt, fun y d'' hy hyd hl => ?_, S.eo.cells, S.eo.globs, S.eo.cel⟩, S.scope, ?_, fun y c hc => ?_, S.apart, S.ne, ?_⟩
  · subst q; rw [n0] at e; exact nn e
  · refine hide fun Gg kg => ?_
    obtain ⟨u, a, b⟩ := S.eo.var y d'' hy hyd hl
    refine kg ?_; clear kg Gg
    exact ⟨u, va a, rp b⟩
  · obtain ⟨m, hn⟩ := S.ns
    exact ⟨m, hn.at' fun o e => hk _ o (fun q => nW (.inl q.symm)) e⟩
  · refine hide fun Gg kg => ?_
    obtain ⟨u, oc, hoc, hd⟩ := S.cell y c hc
    refine kg ?_; clear kg Gg
    exact ⟨u, oc, hk _ _ (fun q => nW (.inr (.inl ⟨y, q ▸ hc⟩))) hoc, hd⟩
  · cases o with
    | none => exact S.own
    | some p =>
      refine hide fun Gg kg => ?_
      obtain ⟨x, v, h1, h2, h3, h4, h5, h6⟩ := S.own
      refine kg ?_; clear kg Gg
      refine ⟨x, v, h1, h2, h3, va h4, h5.mono (fun b o p e => hk b o (fun q => ?_) e) fun b _ p _ => hP b p, h6⟩
      subst q
      rcases p with p | p
      · exact nP p
      · exact nW (.inr (.inr p))
theorem Step.butA {s'' : Shared} {a : Addr} (k : Step env W s W' s') (e : ∃ h t, s'' = { s' with heap := h, toks := t }) (hk : ∀ b o, b ≠ a → s'.heap.get? b = some o → s''.heap.get? b = some o) (ha : s.heap.get? a = none) : Step env W s W' s'' := by
  refine hide fun Gg kg => ?_
  obtain ⟨h, t, rfl⟩ := k.same
  obtain ⟨h', t', rfl⟩ := e
  refine kg ?_; clear kg Gg
  refine ⟨⟨h', t', rfl⟩, fun b o nb e => hk b o (fun q => ?_) (k.kept b o nb e), fun b e => ?_, k.newW, k.ow, fun b o w e => ?_⟩
  · subst q; rw [ha] at e; exact nn e
  · obtain ⟨o, ho⟩ := Option.isSome_iff_exists.mp (k.alive b e)
    exact isSome_of (hk b o (fun q => by subst q; rw [ha] at e; cases e) ho)
  · refine hide fun Gg kg => ?_
    obtain ⟨o', h1, h2⟩ := k.cls b o w e
    refine kg ?_; clear kg Gg
    exact ⟨o', hk b o' (fun q => by subst q; rw [ha] at e; cases e) h1, h2⟩

/-- a loop's state at a turn -/
structure ForInv (prog : Program) (w : World) (K : Frag) (mg mb : Str → Option Value) (h₀ : Heap) (env : Env) (sc : Scope) (P W : Addr → Prop) (s s₁ : Shared) (I : Addr) (StI : Nat → Heap → Prop) (X : List D → List (Nat × D) → Option (Nat × D) → Option Out) (ds : List D) (out : Out) (j : Nat) (s' : Shared) (P' W' : Addr → Prop) (ρ' : List (Nat × D)) (o' : Option (Nat × D)) : Prop where
  hj : j ≤ ds.length
  hst : StI j s'.heap
  hP' : ∀ b, P' b → P b ∧ b ≠ I
  hW' : ¬ W' I
  S' : St prog w K mg mb h₀ env sc P' W' s' ρ' o'
  K' : Step env W s W' s'
  hold : ∀ b o, P b → s₁.heap.get? b = some o → s'.heap.get? b = some o ∧ P' b
  hfm : X (ds.drop j) ρ' o' = some out
theorem fm_inv {ob : Option Out} {X : List (Nat × D) → Option (Nat × D) → Option Out} {out : Out} {G : Prop} (h : (match ob with
    | some (.next ρ' o') => X ρ' o'
    | some (.cont ρ' o') => X ρ' o'
    | some (.ret v) => some (.ret v)
    | none => none) = some out) (k : ∀ out₁, ob = some out₁ → NC X out₁ out → G) : G := by
  cases ob with
  | none => exact nn h
  | some x =>
    cases x with
    | next ρ o => exact k _ rfl h
    | cont ρ o => exact k _ rfl h
    | ret d => exact k _ rfl (Option.some.inj h).symm
theorem for_loop {x : Str} {m : Nat} {px : Pos} {body : List Stmt} {bf : List (Nat × D) → Option (Nat × D) → Option Out} {s₁ s₂ : Shared} {I : Addr} {fp : List Addr} {PV : Nat → Value → Prop} {StI : Nat → Heap → Prop} {ds : List D} {out : Out} (hx : stOk sc x = true) (hm : nmOk x m = true) (hb : BlockOK prog w K mg mb n sc body bf)
    (hA : AOK n A) (S : St prog w K mg mb h₀ env sc P W s ρ o) (ev : forM bf m ds ρ o = some out) (k₁ : Keeps s s₁) (k12 : Keeps s₁ s₂) (hIn : s₁.heap.get? I = none) (hIal : ∀ i h, StI i h → (h.get? I).isSome = true) (Wk : Walks prog w A I fp [I] ds.length PV StI) (st0 : StI 0 s₂.heap)
    (hfp : ∀ b ∈ fp, b = I ∨ (P b ∧ ∃ o, s₁.heap.get? b = some o)) (hpv : ∀ i v d, PV i v → ds[i]? = some d → RelV prog w mg P s₁.heap v d) :
    codeAny (model prog w) A (.forLoop (.Name x px) (.ref I) body [] env) (fun r s' => match r with
      | .ok f => OutOK prog w K mg mb h₀ env sc P W s out f s'
      | .error e => cameBackBy (model prog w) A env (fun _ _ => False) e s') s₂ := by
  have hIs : s.heap.get? I = none := by
    cases q : s.heap.get? I with
    | none => rfl
    | some o => exact ns ((kp k₁ _ _ q).symm.trans hIn)
  refine hide fun Gg kg => ?_
  obtain ⟨n0, nL, nC⟩ := fresh_apart S hIs
  have nWI : ∀ {W' : Addr → Prop}, ¬ W' I → ¬ Wr env W' I := fun z => by
    rintro (q | ⟨y, q⟩ | q)
    · exact nL q
    · exact nC y q
    · exact z q
  refine kg ?_; clear kg Gg nL nC
  have SI : (s₂.heap.get? I).isSome = true := hIal _ _ st0
  refine codeAny_forLoop (fun k s' => ∃ j P' W' ρ' o', k = ds.length + 1 - j ∧ ForInv prog w K mg mb h₀ env sc P W s s₁ I StI (forM bf m) ds out j s' P' W' ρ' o') ?_ (ds.length + 1)
    ⟨0, fun b => P b ∧ b ≠ I, W, ρ, o, rfl, Nat.zero_le _, st0, fun b q => q, fun q => nz hIs (S.own.alive I q), S.mono (kTr k₁ k12) (fun b o p e => ⟨p, fun q => ns ((q ▸ e).symm.trans hIs)⟩)
      (fun b e => ⟨(S.fresh.keeps (kp (kTr k₁ k12))) b e, fun q => nz e (q ▸ SI)⟩) fun b z q => S.nP b z q.1, .of (kTr k₁ k12), fun b o p e => ⟨kp k12 b o e, p, fun q => ns ((q ▸ e).symm.trans hIn)⟩, ev⟩
  clear st0 SI ev k12 k₁
  rintro k s' ⟨j, P', W', ρ', o', rfl, F⟩
  by_cases hlt : j < ds.length
  · refine Wk.item j _ _ _ hlt F.hst fun v h₁ tk₁ hPv hst₁ hk₁ => ?_
    have hk₁' : ∀ b o, b ≠ I → s'.heap.get? b = some o → h₁.get? b = some o := fun b o q e => hk₁ b o (fun z => q (List.mem_singleton.mp z)) e
    clear hk₁
    have SI₁ : (h₁.get? I).isSome = true := hIal _ _ hst₁
    have S₁' : St prog w K mg mb h₀ env sc P' W' { s' with heap := h₁, toks := tk₁ } ρ' o' := F.S'.butA hk₁' (fun q => (F.hP' I q).2 rfl) (nWI F.hW') n0 (fun b q => q)
      (fun b e => F.S'.fresh b (by
        cases q : s'.heap.get? b with
        | none => rfl
        | some o => exact ns ((hk₁' b o (fun z => nz e (z ▸ SI₁)) q).symm.trans e))) F.S'.nP
    have K₁ := F.K'.butA (s'' := { s' with heap := h₁, toks := tk₁ }) ⟨_, _, rfl⟩ hk₁' hIs
    have hold₁ : ∀ b o, P b → s₁.heap.get? b = some o → h₁.get? b = some o ∧ P' b := fun b o p e => have z := F.hold b o p e; ⟨hk₁' b o (fun q => (F.hP' b z.2).2 q) z.1, z.2⟩
    have hd : ds[j]? = some ds[j] := List.getElem?_eq_getElem hlt
    have hfm := F.hfm
    rw [List.drop_eq_getElem_cons hlt] at hfm
    generalize ds[j] = d at hd hfm
    apply iB hfm; clear hfm; intro hfree hfm
    rw [← nmOk.e hm] at hfree
    refine wpAny_assign_Name (s_store S₁' hx (by rw [nmOk.e hm, nmOk.d hm]) hfree ((hpv j v d hPv hd).mono hold₁) fun s₃ S₃ k₃ => ?_)
    rw [nmOk.e hm] at S₃
    apply fm_inv hfm; clear hfm; intro out₁ q hnc
    refine wpAny_mono (hb _ _ _ _ _ _ _ _ _ hA S₃ q) (fun f s₄ z => ?_) fun _ _ z => z.elim
    clear S₃ S₁' q hfree hd
    have SI₃ : (s₃.heap.get? I).isSome = true := k₃.alive _ SI₁
    apply z.eL hnc id id
    · clear z hnc
      intro P₄ W₄ ρ₄ o₄ h1 h2 S₄ hf₄
      have nW₄ : ¬ W₄ I := fun z => (h2.newW I z).elim F.hW' fun z => nz z SI₃
      have kk : ∀ b o, ¬ Wr env W' b → h₁.get? b = some o → s₄.heap.get? b = some o := fun b o p e => h2.kept b o p (k₃.kept b o p e)
      have nWP : ∀ b o, P' b → h₁.get? b = some o → ¬ Wr env W₄ b := fun b o p e z => by
        rcases z with z | z | z
        · exact F.S'.nP b (.inl z) p
        · exact F.S'.nP b (.inr (.inl z)) p
        · exact (h2.newW b z).elim (fun z => F.S'.nP b (.inr (.inr z)) p) fun z => nz z (k₃.alive b (isSome_of e))
      exact ⟨ds.length + 1 - (j + 1), Nat.sub_lt_sub_left (Nat.lt_succ_of_lt hlt) (Nat.lt_succ_self j), j + 1, fun b => P' b ∧ ¬ Wr env W₄ b, W₄, ρ₄, o₄, rfl, hlt, Wk.frame _ _ _ hst₁ fun b hb o e => kk b o ((hfp b hb).elim (fun q => q ▸ nWI F.hW') fun ⟨pb, ob, eb⟩ z => F.S'.nP b z (hold₁ b ob pb eb).2) e,
        fun b q => F.hP' b q.1, nW₄, S₄.mono (kRfl _) (fun b o p e => ⟨h1 b p, fun z => S₄.nP b z p⟩) (fun b e => ⟨h1 b (S₄.fresh b e), fun z => nz e (S₄.aliveWr b z)⟩) fun b z q => q.2 z,
        (K₁.tr k₃).tr h2, fun b o p e => have z := hold₁ b o p e; ⟨kk b o (fun y => F.S'.nP b y z.2) z.1, z.2, nWP b o z.2 z.1⟩, hf₄⟩
    · clear z hnc
      intro P₄ W₄ v d h1 h2 h3 e
      subst e
      exact ⟨P₄, W₄, fun b q => (F.hP' b (h1 b q)).1, (K₁.tr k₃).tr h2, h3⟩
  · have hin : j = ds.length := Nat.le_antisymm F.hj (Nat.le_of_not_lt hlt)
    subst hin
    have hfm := F.hfm
    rw [List.drop_length] at hfm
    have hfm := Option.some.inj hfm
    subst hfm
    refine Wk.done _ _ _ F.hst fun h₁ tk₁ hk₁ => ?_
    have hk₁' : ∀ b o, b ≠ I → s'.heap.get? b = some o → h₁.get? b = some o := fun b o q e => hk₁ b o (fun z => q (List.mem_singleton.mp z)) e
    refine wpAny_execs_nil ⟨fun b => P' b ∨ b = I, W', fun b q => q.elim (fun q => (F.hP' b q).1) fun q => q ▸ S.fresh _ hIs, F.K'.butA (s'' := { s' with heap := h₁, toks := tk₁ }) ⟨_, _, rfl⟩ hk₁' hIs, F.S'.butA hk₁' (fun q => (F.hP' I q).2 rfl) (nWI F.hW') n0 (fun b q => .inl q) ?_ fun b z q => q.elim (F.S'.nP b z) fun q => nWI F.hW' (q ▸ z)⟩
    intro b e
    by_cases z : b = I
    · exact .inr z
    · refine .inl (F.S'.fresh b ?_)
      cases q : s'.heap.get? b with
      | none => rfl
      | some o => exact ns ((hk₁' b o z q).symm.trans e)
theorem o_for (O : Orc prog w K mg mb Γ Γm isi kn fo n) {x : Str} {m : Nat} {px p : Pos} {it : Expr} {pit : PE} {body : List Stmt} {pb : List PS} (hx : stOk sc x = true) (hm : nmOk x m = true) (r : Rep sc it pit) (hb : BlockOK prog w K mg mb n sc body (evB Γ Γm isi kn fo Γk Γu pb)) :
    StmtOK prog w K mg mb n sc (.For (.Name x px) it body [] p) (evS Γ Γm isi kn fo Γk Γu (.for m pit pb)) := by
  intro h₀ env P W A s ρ o out hA S ev
  apply iD ev; clear ev; intro src hsrc ev
  apply iL ev; clear ev; intro ds hds ev
  apply iB ev; clear ev; intro hl ev
  refine wpAny_For (s_evP O S hA r hsrc fun v s₁ k₁ rv => src_iter hA.1 rv hds fun itv s₂ hi => ?_) (fun y => r.folded env y)
  apply hi; clear hi; intro fp PV StI X
  exact for_loop hx hm hb hA S ev k₁ X.k (get_size _) X.al X.W X.st X.fp X.pv

theorem o_whl (O : Orc prog w K mg mb Γ Γm isi kn fo n) {p : Pos} {t : Expr} {pt : PE} {body : List Stmt} {pb : List PS} (r : Rep sc t pt) (hb : BlockOK prog w K mg mb n sc body (evB Γ Γm isi kn fo Γk Γu pb)) :
    StmtOK prog w K mg mb n sc (.While t body [] p) (evS Γ Γm isi kn fo Γk Γu (.whl pt pb)) := by
  intro h₀ env P W A s ρ o out hA S ev
  refine wpAny_While (codeAny_whileLoop (fun k s' => ∃ P' W' ρ' o', (∀ b, P' b → P b) ∧ Step env W s W' s' ∧ St prog w K mg mb h₀ env sc P' W' s' ρ' o' ∧
    whlM (fun ρ o => evX Γ Γm isi kn fo pt ρ o) (fun ρ o => evB Γ Γm isi kn fo Γk Γu pb ρ o) k ρ' o' = some out) ?_ 8 ⟨P, W, ρ, o, fun _ q => q, .rfl', S, ev⟩)
  rintro k s' ⟨P', W', ρ', o', hP, K', S', hw⟩
  cases k with
  | zero => exact nn hw
  | succ k =>
    apply iTF hw
    · clear hw; intro ht hw
      refine s_evT O S' hA r ht fun s₁ k₁ => ?_
      rw [if_pos rfl]
      have S₁ := S'.keeps k₁
      have K₁ := K'.tr (Step.of (env := env) (W := W') k₁)
      apply fm_inv hw; clear hw; intro out₁ q hnc
      refine wpAny_mono (hb _ _ _ _ _ _ _ _ _ hA S₁ q) (fun f s₂ z => ?_) fun _ _ z => z.elim
      apply z.eL hnc id id
      · intro P₂ W₂ ρ₄ o₄ h1 h2 h3 hw
        exact ⟨k, Nat.lt_succ_self _, P₂, W₂, ρ₄, o₄, fun b q => hP b (h1 b q), K₁.tr h2, h3, hw⟩
      · intro P₂ W₂ v d h1 h2 h3 e
        subst e
        exact ⟨P₂, W₂, fun b q => hP b (h1 b q), K₁.tr h2, h3⟩
    · clear hw; intro ht hw
      cases hw
      refine s_evT O S' hA r ht fun s₁ k₁ => ?_
      rw [if_neg Bool.false_ne_true]
      exact wpAny_execs_nil ⟨P', W', hP, K'.tr (.of k₁), S'.keeps k₁⟩
end
end Mine
end

section
open PySem PySem.W PyProof.Rows PySem.Calls
set_option maxRecDepth 100000
namespace Mine
section
variable {prog : Program} {w : World} {K : Frag} {mg mb : Str → Option Value} {P P' W W' : Addr → Prop} {A : Around} {E : Value → Shared → Prop} {s s' : Shared} {env : Env} {sc : Scope} {h h' h₀ : Heap} {ρ ρ' : List (Nat × D)} {o : Option (Nat × D)}
variable {Γ : Nat → List D → Option D} {Γm : Nat → D → List D → Option D} {isi : D → Nat → Option Bool} {kn : Nat → Bool} {fo : Nat → Nat → Bool} {n : Nat} {Γk : Nat → List D → Option (List (Nat × D))} {Γu : Nat → Nat → List (Nat × D) → List D → Option (List (Nat × D))}

theorem notInter (h : env.scope.kind = .function) : interactive env = false := by unfold interactive; rw [h]; rfl

theorem o_app (O : Orc2 prog w K mg mb Γ Γm isi kn fo Γk Γu n) {x : Str} {m : Nat} {px ap q p : Pos} {e : Expr} {pe : PE} (hx : isVar sc x = true) (hok : nameOk x = true) (hm : nmOk x m = true) (hline : (ap.endLine == q.line) = true) (r : Rep sc e pe) :
    StmtOK prog w K mg mb n sc (.Expr (.Call (.Attribute (.Name x px) ("append" : Str) ap) [e] [] q) p) (evS Γ Γm isi kn fo Γk Γu (.app m pe)) := by
  intro h₀ env P W A s ρ o out hA S ev
  apply iOL ev; clear ev; intro y l ho ev
  subst ho
  apply iB ev; clear ev; intro hc ev
  have hc := Bool.and_eq_true_iff.mp hc
  have hy := Nat.eq_of_beq_eq_true hc.1
  subst hy
  apply iD ev; clear ev; intro d hd ev
  have ev := Option.some.inj ev; subst ev
  refine wpAny_Expr ?_ (notInter S.eo.kind) rfl
  rw [arm_eval_Call, attrBase (by rfl)]
  apply S.ownL hm; clear S; intro a vs S h1 h2 h3 h4 g1 g2 h6
  refine wpAny_bind (s_var S.eo.kind h4 hok (wpAny_bind (wpAny_standAt ?_)))
  refine s_methodCall hline (by simp) (by rw [r.star]; rfl) fun pl => ?_
  obtain ⟨nn, hget⟩ := g1
  refine Calls.getMethod_list_append hget rfl rfl ?_
  have r' : RepL sc [e] [pe] := .cons r .nil
  refine Calls.callWith_builtin (star_plain r' _ _) (args_rep r' ((mainL O.toOrc r').1 env ρ P A s _ _ [d] _ hA S.good S.fresh S.eo (jD hd rfl) fun ws s₁ k₁ rl => ?_))
  have S₁ := S.keeps k₁
  apply RelL.eCons rl; clear rl; intro v _ rd rl
  apply RelL.eNil rl; clear rl
  have hlen' := Nat.le_of_ble_eq_true hc.2
  have hvl := g2.length
  refine wpAny_list_append_plain (hsz := by rw [sizeLine_eq]; simp; omega) ⟨nn, kp k₁ _ _ hget⟩ fun h₂ hl₂ hs₂ => ?_
  have hkept : ∀ b o, ¬ (b = a) → s₁.heap.get? b = some o → h₂.get? b = some o := fun b o nb e => hs₂.extBut b o nb e
  have hal := alive_but hs₂ (by obtain ⟨n2, e2⟩ := hl₂; exact isSome_of e2)
  have hcls : ∀ b o, (b = a) → s₁.heap.get? b = some o → ∃ o', h₂.get? b = some o' ∧ o'.cls = o.cls := fun b o hb e => by
    subst hb
    rw [kp k₁ _ _ hget] at e
    have e := Option.some.inj e; subst e
    obtain ⟨n2, e2⟩ := hl₂
    exact ⟨_, e2, rfl⟩
  have nPa : ¬ P a := S.nP a (.inr (.inr rfl))
  refine ⟨P, _, fun _ p => p, (Step.of k₁).tr (Step.own' (s' := { s₁ with heap := h₂ }) ⟨_, _, rfl⟩ hkept hal hcls), S₁.own' (s' := { s₁ with heap := h₂ }) ⟨_, _, rfl⟩ hkept hal h1 h2 h3 (h4.keeps (kp k₁)) h6 ?_⟩
  exact .lst (vs := vs ++ [_]) (by simpa using hl₂) (((g2.keeps k₁).but hkept nPa).append (.cons (rd.but hkept nPa) .nil))

theorem o_mut (O : Orc2 prog w K mg mb Γ Γm isi kn fo Γk Γu n) {g x : Str} {m mx : Nat} {px px' q p : Pos} {l : List Expr} {ps : List PE} (hg : isGlob sc g = true) (hn : nmOk g m = true) (hok : nameOk g = true) (hx : isVar sc x = true) (hokx : nameOk x = true) (hm : nmOk x mx = true) (hlen : l.length ≤ 20) (r : RepL sc l ps) :
    StmtOK prog w K mg mb n sc (.Expr (.Call (.Name g px) (.Name x px' :: l) [] q) p) (evS Γ Γm isi kn fo Γk Γu (.mut m mx ps)) := by
  intro h₀ env P W A s ρ o out hA S ev
  apply iOI ev; clear ev; intro y c fs ho ev
  subst ho
  apply iB ev; clear ev; intro hc ev
  have hc := Nat.eq_of_beq_eq_true hc
  subst hc
  apply iL ev; clear ev; intro ds hds ev
  apply iFs ev; clear ev; intro fs' hfs ev
  have ev := Option.some.inj ev; subst ev
  refine hide fun Gg kg => ?_
  obtain ⟨v0, hgl, hk, hcall⟩ := O.mutO _ _ _ _ _ hfs
  refine kg ?_; clear kg Gg
  apply S.ownE hm; intro u h1 h2 h3 h4 h5 h6
  refine wpAny_Expr ?_ (notInter S.eo.kind) rfl
  refine wpAny_Call_ofName (s_glob S.good S.eo.kind S.eo.glob S.eo.blt (S.eo.globs _ (isGlob_look hg)) ((nmOk.d hn) ▸ hgl) hok ?_)
  have r' : RepL sc (.Name x px' :: l) (.var y :: ps) := .cons (.var hx hm hokx) r
  refine callWith_of (P := Gd K mg mb) (by rw [star_plain r']; rfl) hk (args_rep r' ?_)
  refine wpAny_items_cons (s_var S.eo.kind h4 hokx ((mainL O.toOrc r).1 env ρ P A s _ _ ds _ hA S.good S.fresh S.eo hds fun vs s₁ k rl => ⟨S.good.keeps (kp k), ?_⟩)) (by rfl)
  have S₁ := S.keeps k
  refine hcall h₀ P W A s₁ u vs _ _ hA S₁.gd S₁.gk (fun b q => ⟨S.gn b (.inr (.inr q)), S.nP b (.inr (.inr q))⟩) S₁.fresh (h5.mono (fun b o _ e => kp k b o e) fun _ _ p _ => p) rl fun s₂ hsame hkept hal hcls hv => ?_
  exact ⟨P, W, fun _ p => p, (Step.of k).tr (Step.own' hsame hkept hal hcls), S₁.own' hsame hkept hal h1 h2 h3 (h4.keeps (kp k)) h6 hv⟩

section
variable {pelt pit : PE} {pifs : List PE} {mm : Nat} {d : D} {G : Prop}
theorem comp_inv (ev : evE Γ Γm isi kn fo (.comp pelt mm pit pifs) ρ = some d) (k : ∀ src ds outs, evE Γ Γm isi kn fo pit ρ = some src → itemsD src = some ds → ds.length ≤ 1000 → keepM (fun d => evTs Γ Γm isi kn fo pifs (put ρ mm d)) (fun d => evE Γ Γm isi kn fo pelt (put ρ mm d)) ds = some outs → .lst outs = d → G) : G := by
  apply iD ev; clear ev; intro src hsrc ev
  apply iL ev; clear ev; intro ds hds ev
  apply iB ev; clear ev; intro hl ev
  apply iM ev; clear ev; intro outs ho ev
  exact k src ds outs hsrc hds (Nat.le_of_ble_eq_true hl) ho ev
theorem evP_comp (ev : evP Γ Γm isi kn fo (.comp pelt mm pit pifs) ρ o = some d) (k : ∀ src ds outs, evE Γ Γm isi kn fo pit ρ = some src → itemsD src = some ds → ds.length ≤ 1000 → keepM (fun d => evTs Γ Γm isi kn fo pifs (put ρ mm d)) (fun d => evE Γ Γm isi kn fo pelt (put ρ mm d)) ds = some outs → .lst outs = d → G) : G := by
  apply iEl ev
  · clear ev; intro ev; exact comp_inv ev k
  · clear ev; intro ev
    apply iD ev; clear ev; intro d' he ev
    apply iB ev; clear ev; intro hf ev
    apply comp_inv he; clear he; intro _ _ outs _ _ _ _ e
    subst e
    exact nf hf
end
theorem o_asgc (O : Orc prog w K mg mb Γ Γm isi kn fo n) {x : Str} {m mm : Nat} {px p : Pos} {e : Expr} {pelt pit : PE} {pifs : List PE} (hx : sc.names.lookup x = some .local) (hv : isVar sc x = true) (hm : nmOk x m = true) (r : Rep sc e (.comp pelt mm pit pifs)) :
    StmtOK prog w K mg mb n sc (.Assign [.Name x px] e p) (evS Γ Γm isi kn fo Γk Γu (.asg m (.comp pelt mm pit pifs))) := by
  intro h₀ env P W A s ρ o out hA S ev
  apply iB ev; clear ev; intro hf ev
  · apply iD ev; clear ev; intro d hd ev
    have ev := Option.some.inj ev; subst ev
    obtain ⟨y, py, elt, iter, ifs, sc', q, rfl, re, ri, rs, hn, hc⟩ := id r.inv
    have hst : stOk sc x = true := by simp [stOk, hx, hv]
    have hdx : dec (enc x) = x := by rw [nmOk.e hm, nmOk.d hm]
    have hsw : (∃ b, swapsWith (.ListComp elt [⟨.Name y py, iter, ifs, 0⟩] sc' q) (some (.Name x px)) p.line env = pure b) := ⟨_, rfl⟩
    obtain ⟨b, hsw⟩ := hsw
    rw [← nmOk.e hm] at hf ⊢
    cases b with
    | false => exact wpAny_Assign_Name (s_evP O S hA r hd fun v s₁ k rv => s_store (S.keeps k) hst hdx hf rv fun s₂ S₂ k₂ => ⟨P, W, fun _ p => p, (Step.of k).tr k₂, S₂⟩) hsw
    | true =>
      have he : exec (.Assign [.Name x px] (.ListComp elt [⟨.Name y py, iter, ifs, 0⟩] sc' q) p) env = (do
          standAt p
          if ← swapsWithSole [.Name x px] (.ListComp elt [⟨.Name y py, iter, ifs, 0⟩] sc' q) p.line env then do
            evalThenUse (.ListComp elt [⟨.Name y py, iter, ifs, 0⟩] sc' q) env fun v => assignAll v ((assignEach [.Name x px] env).map (·.2))
            pure .next
          else do
            let v ← eval (.ListComp elt [⟨.Name y py, iter, ifs, 0⟩] sc' q) env
            assignStores env v (← swappedStores [.Name x px] (.ListComp elt [⟨.Name y py, iter, ifs, 0⟩] sc' q) env) ((assignEach [.Name x px] env).map (·.2))) := rfl
      rw [he]
      refine wpAny_bind (wpAny_standAt ?_)
      have e2 : swapsWithSole [.Name x px] (.ListComp elt [⟨.Name y py, iter, ifs, 0⟩] sc' q) p.line env = pure true := by unfold swapsWithSole; exact hsw
      rw [e2]
      refine wpAny_bind (wpAny_pure ?_)
      rw [if_pos rfl]
      refine wpAny_bind ?_
      show wpAny (model prog w) A (comprehension (.ListComp elt [⟨.Name y py, iter, ifs, 0⟩] sc' q) sc' env _ (newList []) false (eval iter env) (some fun v => assignAll v [assign (.Name x px) env]) >>= fun _ => pure ()) _ _ s
      refine wpAny_bind ?_
      apply evP_comp hd; clear hd; intro src ds outs hsrc hds hl ho ed
      subst ed
      refine s_compG (use := some fun v => assignAll v [assign (.Name x px) env]) hA.1 S.good S.fresh S.eo (compSc_of hc) (by rw [nmOk.e hn, nmOk.d hn]) (fun z => ri.folded env z) (fun Q' h => (mainE O ri).1 env ρ P A s _ Q' src hA S.good S.fresh S.eo hsrc h) hds hl ho ?_ ?_ ?_
      · intro P' cenv s' d b Q' E' G' F' EO' ht h
        rw [nmOk.e hn] at EO'
        exact (mainL O rs).2.2.2.2.2.1 cenv _ P' A s' E' Q' b hA G' F' EO' ht h
      · intro P' cenv s' d d' Q' E' G' F' EO' hf h
        rw [nmOk.e hn] at EO'
        exact (mainE O re).1 cenv _ P' A s' E' Q' d' hA G' F' EO' hf h
      · intro v C s₁ m' fl hC hns post
        refine hide fun Gg kg => ?_
        obtain ⟨n0, nL, nC⟩ := fresh_apart S hC
        refine kg ?_; clear kg Gg
        have nWC : ¬ Wr env W C := by
          rintro (q | ⟨y, q⟩ | q)
          · exact nL q
          · exact nC y q
          · have := S.own.alive C q; rw [hC] at this; first | exact nn this | exact nf this
        have k₁ := post.1
        have S₁ : St prog w K mg mb h₀ env sc (fun b => P b ∧ b ≠ C) W s₁ ρ o := S.mono k₁ (fun b o p e => ⟨p, fun q => by subst q; rw [hC] at e; cases e⟩)
          (fun b e => ⟨(S.fresh.keeps (kp k₁)) b e, fun q => by subst q; obtain ⟨_, _, _, z, _⟩ := hns; rw [e] at z; cases z⟩) fun b z q => S.nP b z q.1
        show wpAny (model prog w) A (assign (.Name x px) env v) _ _ s₁
        refine wpAny_assign_Name (s_store S₁ hst hdx hf post.2 fun s₂ S₂ k₂ => ⟨m', hns.at' fun o e => k₂.kept _ o nWC e, fun h' hs' => wpAny_pure (wpAny_pure ⟨P, W, fun _ q => q, ?_, ?_⟩)⟩)
        · exact ((Step.of k₁).tr k₂).butA (a := C) (s'' := { s₂ with heap := h' }) ⟨_, _, rfl⟩ (fun b o nb e => hs'.extBut b o nb e) hC
        · refine S₂.butA (a := C) (s' := { s₂ with heap := h' }) (fun b o nb e => hs'.extBut b o nb e) (fun q => q.2 rfl) nWC n0 (fun b q => q.1) (fun b e => ?_) S.nP
          by_cases z : b = C
          · subst z; exact S.fresh _ hC
          · exact (S₂.fresh b (by rw [← hs'.2 b z]; exact e)).1

variable (O : Orc2 prog w K mg mb Γ Γm isi kn fo Γk Γu n)
include O
theorem o_bad {sc : Scope} {st : Stmt} : StmtOK prog w K mg mb n sc st (evS Γ Γm isi kn fo Γk Γu .bad) := by intro h₀ env P W A s ρ o out hA S ev; exact nn ev
/-- statements are sound -/
theorem mainS {sc : Scope} {st : Stmt} {ps : PS} (r : RepS sc st ps) : StmtOK prog w K mg mb n sc st (evS Γ Γm isi kn fo Γk Γu ps) :=
  RepS.rec (motive_1 := fun st ps _ => StmtOK prog w K mg mb n sc st (evS Γ Γm isi kn fo Γk Γu ps)) (motive_2 := fun l pl _ => BlockOK prog w K mg mb n sc l (evB Γ Γm isi kn fo Γk Γu pl))
    (o_bad O) (fun hx hm hc r => o_asg O.toOrc hx hm hc r) (fun hx hv hm r => o_asgc O.toOrc hx hv hm r) (fun h1 h2 h3 h4 h5 h6 r => o_asg2 O.toOrc h1 h2 h3 h4 h5 h6 r) (fun h1 h2 h3 r => o_aug O.toOrc h1 h3 h2 r)
    (fun r _ _ a b => o_ite O.toOrc r a b) (fun r => o_ret O.toOrc r) o_ret0 (fun h1 h2 r _ b => o_for O.toOrc h1 h2 r b) (fun r _ b => o_whl O.toOrc r b) o_cont (fun h1 h2 h3 h4 r => o_app O h1 h2 h3 h4 r) (fun h1 h2 => o_newl h1 h2)
    (fun h1 h2 h3 h4 h5 h6 r => o_mk O h1 h2 h3 h4 h5 h6 r) (fun h1 h2 h3 h4 r => o_fld O h1 h2 h3 h4 r) (fun h1 h2 h3 h4 h5 h6 h7 r => o_mut O h1 h2 h3 h4 h5 h6 h7 r) o_nil (fun _ _ r rs => o_cons r rs) r
theorem mainB {sc : Scope} {l : List Stmt} {pl : List PS} (r : RepB sc l pl) : BlockOK prog w K mg mb n sc l (evB Γ Γm isi kn fo Γk Γu pl) := by
  induction l generalizing pl with
  | nil => cases r; exact o_nil
  | cons st l ih => cases r with | cons a b => exact o_cons (mainS O a) (ih b)
end
end Mine
end

section
open PySem PySem.W PyProof.Rows PySem.Calls
set_option maxRecDepth 100000
namespace Mine

theorem aL {a b : Bool} (h : (a && b) = true) : a = true := (Bool.and_eq_true_iff.mp h).1
theorem aR {a b : Bool} (h : (a && b) = true) : b = true := (Bool.and_eq_true_iff.mp h).2
/-- a check whose proof is handed on -/
noncomputable def whn {α : Type} : (b : Bool) → (b = true → Option α) → Option α
  | true, f => f rfl
  | false, _ => none
/-- an expression's form with the proof of it -/
abbrev OkE (sc : Scope) (e : Expr) : Type := Option {pe : PE // Rep sc e pe}
abbrev OkL (sc : Scope) (l : List Expr) : Type := Option {ps : List PE // RepL sc l ps}
noncomputable def cL {sc : Scope} (f : (e : Expr) → OkE sc e) : (l : List Expr) → OkL sc l
  | [] => some ⟨[], .nil⟩
  | a :: r => (f a).bind fun x => (cL f r).map fun y => ⟨x.1 :: y.1, .cons x.2 y.2⟩
noncomputable def cName (sc : Scope) (x : Str) (p : Pos) : OkE sc (.Name x p) :=
  whn (nmOk x (enc x) && nameOk x) fun h => (whn (isVar sc x) fun hv => some ⟨.var (enc x), .var hv (aL h) (aR h)⟩).or (whn (isGlob sc x) fun hg => some ⟨.glob (enc x), .glob hg (aL h) (aR h)⟩)
noncomputable def cSub {sc : Scope} (rec : (e : Expr) → OkE sc e) (a i : Expr) (p : Pos) : OkE sc (.Subscript a i p) := match i with
  | .Slice none (some (.Constant (.int j) _ _)) none _ => (match a with
    | .Name x q => (rec (.Name x q)).map fun r => ⟨.upto r.1 j, .upto r.2⟩
    | _ => none)
  | .Slice (some (.Constant (.int (.ofNat j)) _ _)) (some (.Constant (.int (.ofNat i)) _ _)) none _ => (match a with
    | .Name x q => (rec (.Name x q)).bind fun r => whn (Nat.ble j i) fun h => some ⟨.cut r.1 j i, .cutIn (Nat.le_of_ble_eq_true h) r.2⟩
    | _ => none)
  | .Slice .. => none
  | i => (rec a).bind fun x => (rec i).map fun y => ⟨.item x.1 y.1, .item x.2 y.2⟩
noncomputable def cKey : (k : Option Expr) → Option {m : MK // ∀ ks ms, KReps ks ms → KReps (k :: ks) (m :: ms)}
  | some (.Constant .none _ _) => some ⟨.none, fun _ _ => .cons .none⟩
  | some (.Constant (.int i) _ _) => some ⟨.int i, fun _ _ => .cons .int⟩
  | some (.Constant (.str s) _ _) => some ⟨.str s, fun _ _ => .cons .str⟩
  | _ => none
noncomputable def cKeys : (ks : List (Option Expr)) → Option {ms : List MK // KReps ks ms}
  | [] => some ⟨[], .nil⟩
  | k :: ks => (cKey k).bind fun x => (cKeys ks).map fun y => ⟨x.1 :: y.1, x.2 _ _ y.2⟩
abbrev OkD (sc : Scope) (ks : List (Option Expr)) (vs : List Expr) : Type := Option {x : List MK × List PE // KReps ks x.1 ∧ nodupB x.1 = true ∧ ks.length ≤ 15 ∧ ks.length = vs.length ∧ RepL sc vs x.2}
noncomputable def cDict {sc : Scope} (rec : (e : Expr) → OkE sc e) (ks : List (Option Expr)) (vs : List Expr) : OkD sc ks vs :=
  whn (Nat.ble ks.length 15 && Nat.beq ks.length vs.length) fun h => (cKeys ks).bind fun m => whn (nodupB m.1) fun hn => (cL rec vs).map fun y => ⟨(m.1, y.1), m.2, hn, Nat.le_of_ble_eq_true (aL h), Nat.eq_of_beq_eq_true (aR h), y.2⟩
theorem isinst_of {sc : Scope} {g : Str} {p a pa c n p' q} (hg : (g == ("isinstance" : Str)) = true) (h : (isGlob sc ("isinstance" : Str) && isGlob sc c && nmOk c n && nameOk c) = true) (r : Rep sc a pa) : Rep sc (.Call (.Name g p) [a, .Name c p'] [] q) (.isinst pa n) :=
  beq_iff_eq.mp hg ▸ .isinst (aL (aL (aL h))) (aR (aL (aL h))) (aR (aL h)) (aR h) r
theorem mget_of {sc : Scope} {ks : List (Option Expr)} {vs : List Expr} {x : List MK × List PE} {m : Str} {ap q : Pos} {k d : Expr} {pk pd : PE} {dp : Pos} (hm : (m == ("get" : Str) && (ap.endLine == q.line) && Nat.blt 0 ks.length) = true)
    (h : KReps ks x.1 ∧ nodupB x.1 = true ∧ ks.length ≤ 15 ∧ ks.length = vs.length ∧ RepL sc vs x.2) (rk : Rep sc k pk) (rd : Rep sc d pd) : Rep sc (.Call (.Attribute (.Dict ks vs dp) m ap) [k, d] [] q) (.mget x.1 x.2 pk pd) :=
  beq_iff_eq.mp (aL (aL hm)) ▸ .mget h.1 h.2.1 h.2.2.1 (Nat.le_of_ble_eq_true (aR hm)) h.2.2.2.1 (aR (aL hm)) h.2.2.2.2 rk rd
noncomputable def cIsi {sc : Scope} (rec : (e : Expr) → OkE sc e) (g : Str) (gp : Pos) (l : List Expr) (q : Pos) : OkE sc (.Call (.Name g gp) l [] q) := whn (g == ("isinstance" : Str)) fun hg => match l with
  | [a, .Name c _] => whn (isGlob sc ("isinstance" : Str) && isGlob sc c && nmOk c (enc c) && nameOk c) fun h => (rec a).map fun r => ⟨.isinst r.1 (enc c), isinst_of hg h r.2⟩
  | _ => none
noncomputable def cCall {sc : Scope} (rec : (e : Expr) → OkE sc e) (f : Expr) (l : List Expr) (q : Pos) : OkE sc (.Call f l [] q) := match f with
  | .Name g gp => (cIsi rec g gp l q).or
    (whn (!(g == ("isinstance" : Str)) && (isGlob sc g && nmOk g (enc g) && nameOk g && Nat.ble l.length 20)) fun h => (cL rec l).map fun r => ⟨.call (enc g) r.1, .call (aL (aL (aL (aR h)))) (aR (aL (aL (aR h)))) (aR (aL (aR h))) (Nat.le_of_ble_eq_true (aR (aR h))) r.2⟩)
  | .Attribute (.Dict ks vs _) m ap => whn (m == ("get" : Str) && (ap.endLine == q.line) && Nat.blt 0 ks.length) fun h => (match l with
      | [k, d] => (cDict rec ks vs).bind fun x => (rec k).bind fun y => (rec d).map fun z => ⟨.mget x.1.1 x.1.2 y.1 z.1, mget_of h x.2 y.2 z.2⟩
      | _ => none)
  | .Attribute o m ap => whn (notCall o && nmOk m (enc m) && (ap.endLine == q.line) && Nat.ble l.length 20) fun h => (rec o).bind fun x => (cL rec l).map fun y => ⟨.meth x.1 (enc m) y.1, .meth x.2 (aL (aL (aL h))) (aR (aL (aL h))) (aR (aL h)) (Nat.le_of_ble_eq_true (aR h)) y.2⟩
  | .Call (.Attribute o m ap) l' [] q' => whn (Nat.ble l.length 20) fun h => (rec (.Call (.Attribute o m ap) l' [] q')).bind fun x => (cL rec l).map fun y => ⟨.callv x.1 y.1, .callv x.2 (Nat.le_of_ble_eq_true h) y.2⟩
  | _ => none
noncomputable def cP : Nat → (sc : Scope) → (e : Expr) → OkE sc e
  | 0, _, _ => none
  | n + 1, sc, e => match e with
    | .Constant .none _ _ => some ⟨.none, .none⟩
    | .Constant (.bool b) _ _ => some ⟨.bool b, .bool⟩
    | .Constant (.int i) _ _ => some ⟨.int i, .int⟩
    | .Constant (.str s) _ _ => some ⟨.str s, .str⟩
    | .Name x _ => cName sc x _
    | .Tuple l _ _ => (cL (cP n sc) l).map fun r => ⟨.tup r.1, .tup r.2⟩
    | .List l _ => (cL (cP n sc) l).map fun r => ⟨.lst r.1, .lst r.2⟩
    | .Subscript a i _ => cSub (cP n sc) a i _
    | .Attribute a x _ => whn (notCall a && nmOk x (enc x)) fun h => (cP n sc a).map fun r => ⟨.attr r.1 (enc x), .attr r.2 (aL h) (aR h)⟩
    | .Call f l [] q => cCall (cP n sc) f l q
    | .Compare a [op] [b] _ => (cP n sc a).bind fun x => (cP n sc b).map fun y => ⟨.cmp op x.1 y.1, .cmp x.2 y.2⟩
    | .Compare a [o1, o2] [b, c] _ => (cP n sc a).bind fun x => (cP n sc b).bind fun y => (cP n sc c).map fun z => ⟨.cmp2 o1 o2 x.1 y.1 z.1, .cmp2 x.2 y.2 z.2⟩
    | .UnaryOp .Not a _ => (cP n sc a).map fun r => ⟨.not r.1, .not r.2⟩
    | .UnaryOp .USub a _ => (cP n sc a).map fun r => ⟨.neg r.1, .neg r.2⟩
    | .BoolOp .And l _ => (cL (cP n sc) l).map fun r => ⟨.and r.1, .and r.2⟩
    | .BoolOp .Or l _ => (cL (cP n sc) l).map fun r => ⟨.or r.1, .or r.2⟩
    | .BinOp a op b _ => (cP n sc a).bind fun x => (cP n sc b).map fun y => ⟨.bin op x.1 y.1, .bin x.2 y.2⟩
    | .IfExp t a b _ => (cP n sc t).bind fun x => (cP n sc a).bind fun y => (cP n sc b).map fun z => ⟨.ite x.1 y.1 z.1, .ite x.2 y.2 z.2⟩
    | .ListComp elt [⟨.Name x _, iter, ifs, 0⟩] sc' _ => whn (nmOk x (enc x) && compScOk sc sc' x) fun h => (cP n sc' elt).bind fun a => (cP n sc iter).bind fun b => (cL (cP n sc') ifs).map fun c => ⟨.comp a.1 (enc x) b.1 c.1, .comp a.2 b.2 c.2 (aL h) (aR h)⟩
    | .Dict ks vs _ => (cDict (cP n sc) ks vs).map fun x => ⟨.dict x.1.1 x.1.2, .dict x.2.1 x.2.2.1 x.2.2.2.1 x.2.2.2.2.1 x.2.2.2.2.2⟩
    | _ => none
end Mine
end

section
open PySem PySem.W PyProof.Rows PySem.Calls
set_option maxRecDepth 100000
namespace Mine

abbrev OkS (sc : Scope) (st : Stmt) : Type := {p : PS // RepS sc st p}
noncomputable def bad {sc : Scope} {st : Stmt} : OkS sc st := ⟨.bad, .bad⟩
/-- names whose calls make an object that its frame goes on to write -/
noncomputable def mkNames : List Str := ["Param", "Func", "Host"]
noncomputable def cAsg {sc : Scope} (ce : (e : Expr) → OkE sc e) (x : Str) (px : Pos) (e : Expr) (p : Pos) : Option (OkS sc (.Assign [.Name x px] e p)) :=
  whn (stOk sc x && nmOk x (enc x)) fun h => match e with
    | .ListComp a b c d => whn (sc.names.lookup x == some .local && isVar sc x) fun h1 => (ce (.ListComp a b c d)).bind fun r => match r with
      | ⟨.comp a b c d, r⟩ => some ⟨.asg (enc x) (.comp a b c d), .asgc (beq_iff_eq.mp (aL h1)) (aR h1) (aR h) r⟩
      | _ => none
    | .List [] _ => some ⟨.newl (enc x), .newl (aL h) (aR h)⟩
    | .Call (.Name c pc) l [] q => (match mkNames.contains c with
      | true => whn (isGlob sc c && nmOk c (enc c) && nameOk c && Nat.ble l.length 20) fun h1 => (cL ce l).map fun r => ⟨.mk (enc x) (enc c) r.1, .mk (aL h) (aR h) (aL (aL (aL h1))) (aR (aL (aL h1))) (aR (aL h1)) (Nat.le_of_ble_eq_true (aR h1)) r.2⟩
      | false => (ce (.Call (.Name c pc) l [] q)).map fun r => ⟨.asg (enc x) r.1, .asg (aL h) (aR h) rfl r.2⟩)
    | e => whn (notComp e) fun hn => (ce e).map fun r => ⟨.asg (enc x) r.1, .asg (aL h) (aR h) hn r.2⟩
theorem app_of {sc : Scope} {x m : Str} {px ap q p : Pos} {e : Expr} {pe : PE} (h : (m == ("append" : Str) && isVar sc x && nameOk x && nmOk x (enc x) && (ap.endLine == q.line)) = true) (r : Rep sc e pe) : RepS sc (.Expr (.Call (.Attribute (.Name x px) m ap) [e] [] q) p) (.app (enc x) pe) :=
  beq_iff_eq.mp (aL (aL (aL (aL h)))) ▸ .app (aR (aL (aL (aL h)))) (aR (aL (aL h))) (aR (aL h)) (aR h) r
noncomputable def cDo {sc : Scope} (ce : (e : Expr) → OkE sc e) (f : Expr) (l : List Expr) (q p : Pos) : Option (OkS sc (.Expr (.Call f l [] q) p)) := match f with
  | .Attribute (.Name x _) m ap => (match l with
    | [e] => whn (m == ("append" : Str) && isVar sc x && nameOk x && nmOk x (enc x) && (ap.endLine == q.line)) fun h => (ce e).map fun r => ⟨.app (enc x) r.1, app_of h r.2⟩
    | _ => none)
  | .Name g _ => (match l with
    | .Name x _ :: l => whn (isGlob sc g && nmOk g (enc g) && nameOk g && isVar sc x && nameOk x && nmOk x (enc x) && Nat.ble l.length 20) fun h => (cL ce l).map fun r =>
        ⟨.mut (enc g) (enc x) r.1, .mut (aL (aL (aL (aL (aL (aL h)))))) (aR (aL (aL (aL (aL (aL h)))))) (aR (aL (aL (aL (aL h))))) (aR (aL (aL (aL h)))) (aR (aL (aL h))) (aR (aL h)) (Nat.le_of_ble_eq_true (aR h)) r.2⟩
    | _ => none)
  | _ => none
noncomputable def cM {sc : Scope} (f : (st : Stmt) → OkS sc st) : (l : List Stmt) → {pl : List PS // RepB sc l pl}
  | [] => ⟨[], .nil⟩
  | s :: r => ⟨(f s).1 :: (cM f r).1, .cons (f s).2 (cM f r).2⟩
noncomputable def cS (ce : (sc : Scope) → (e : Expr) → OkE sc e) : Nat → (sc : Scope) → (st : Stmt) → OkS sc st
  | 0, _, _ => bad
  | n + 1, sc, st => match st with
    | .Assign [.Name x _] e _ => (cAsg (ce sc) x _ e _).getD bad
    | .Assign [.Tuple [.Name x _, .Name y _] _ _] e _ => (whn (stOk sc x && nmOk x (enc x) && stOk sc y && nmOk y (enc y) && notComp e && swapOk e) fun h => (ce sc e).map fun r =>
        (⟨.asg2 (enc x) (enc y) r.1, .asg2 (aL (aL (aL (aL (aL h))))) (aR (aL (aL (aL (aL h))))) (aR (aL (aL (aL h)))) (aR (aL (aL h))) (aR (aL h)) (aR h) r.2⟩ : OkS sc _)).getD bad
    | .Assign [.Attribute (.Name x _) f _] e _ => (whn (isVar sc x && nameOk x && nmOk x (enc x) && nmOk f (enc f)) fun h => (ce sc e).map fun r => (⟨.fld (enc x) (enc f) r.1, .fld (aL (aL (aL h))) (aR (aL (aL h))) (aR (aL h)) (aR h) r.2⟩ : OkS sc _)).getD bad
    | .AugAssign (.Name x _) .Add e _ => (whn (stOk sc x && nameOk x && nmOk x (enc x)) fun h => (ce sc e).map fun r => (⟨.aug (enc x) r.1, .aug (aL (aL h)) (aR (aL h)) (aR h) r.2⟩ : OkS sc _)).getD bad
    | .If t a b _ => ((ce sc t).map fun r => (⟨.ite r.1 (cM (cS ce n sc) a).1 (cM (cS ce n sc) b).1, .ite r.2 (cM (cS ce n sc) a).2 (cM (cS ce n sc) b).2⟩ : OkS sc _)).getD bad
    | .Return (some e) _ => ((ce sc e).map fun r => (⟨.ret r.1, .ret r.2⟩ : OkS sc _)).getD bad
    | .Return none _ => ⟨.ret0, .ret0⟩
    | .For (.Name x _) it body [] _ => (whn (stOk sc x && nmOk x (enc x)) fun h => (ce sc it).map fun r => (⟨.for (enc x) r.1 (cM (cS ce n sc) body).1, .for (aL h) (aR h) r.2 (cM (cS ce n sc) body).2⟩ : OkS sc _)).getD bad
    | .While t body [] _ => ((ce sc t).map fun r => (⟨.whl r.1 (cM (cS ce n sc) body).1, .whl r.2 (cM (cS ce n sc) body).2⟩ : OkS sc _)).getD bad
    | .Continue _ => ⟨.cont, .cont⟩
    | .Expr (.Call f l [] q) _ => (cDo (ce sc) f l q _).getD bad
    | _ => bad
/-- a block's form -/
noncomputable def cB (sc : Scope) (l : List Stmt) : List PS := (cM (cS (cP 40) 20 sc) l).1
theorem cB_sound (sc : Scope) (l : List Stmt) : RepB sc l (cB sc l) := (cM (cS (cP 40) 20 sc) l).2
end Mine
end

section
open PySem PySem.W PyProof.Rows PySem.Calls
set_option maxRecDepth 100000
namespace Mine

noncomputable def fillA : List (Str × Value) → List (Str × Value) → List (Str × Value)
  | [], acc => acc
  | x :: r, acc => fillA r (if (acc.lookup x.1).isNone = true then acc ++ [(x.1, x.2)] else acc)
theorem fill_forIn (l acc : List (Str × Value)) : (forIn l acc fun (x : Str × Value) (s : List (Str × Value)) => (if (List.lookup x.1 s).isNone = true then pure (ForInStep.yield (s ++ [(x.1, x.2)])) else pure (ForInStep.yield s) : Sem (ForInStep (List (Str × Value))))) = pure (fillA l acc) := by
  induction l generalizing acc with
  | nil => rw [List.forIn_nil]; rfl
  | cons x r ih =>
    rw [List.forIn_cons]
    show _ = pure (fillA r (if (acc.lookup x.1).isNone = true then acc ++ [(x.1, x.2)] else acc))
    by_cases h : (List.lookup x.1 acc).isNone = true
    · rw [if_pos h, if_pos h, pure_bind]; exact ih _
    · rw [if_neg h, if_neg h, pure_bind]; exact ih _
theorem lookup_some_of {α : Type} {l : List (Str × α)} {n : Str} (h : n ∈ l.map (·.1)) : ∃ v, l.lookup n = some v := by
  induction l with
  | nil => exact nomatch h
  | cons p r ih =>
    rw [List.lookup_cons]
    by_cases q : n = p.1
    · rw [q, beq_self_eq_true]; exact ⟨p.2, rfl⟩
    · rw [beq_eq_false_iff_ne.mpr q]
      exact ih ((List.mem_cons.mp h).resolve_left q)
theorem lookup_none_of {α : Type} {l : List (Str × α)} {n : Str} (h : n ∉ l.map (·.1)) : l.lookup n = none := by
  induction l with
  | nil => rfl
  | cons p r ih =>
    rw [List.lookup_cons, beq_eq_false_iff_ne.mpr (fun q => h (List.mem_cons.mpr (.inl q)))]
    exact ih fun q => h (List.mem_cons.mpr (.inr q))
theorem fill_old {l acc : List (Str × Value)} (h : ∀ x ∈ l, x.1 ∈ acc.map (·.1)) : fillA l acc = acc := by
  induction l with
  | nil => rfl
  | cons x r ih =>
    show fillA r (if (acc.lookup x.1).isNone = true then acc ++ [(x.1, x.2)] else acc) = acc
    refine (lookup_some_of (h x (List.mem_cons_self ..))).elim fun v hv => ?_
    rw [hv]
    exact ih fun y hy => h y (List.mem_cons_of_mem _ hy)
theorem fill_new {l acc : List (Str × Value)} (h : ((acc ++ l).map (·.1)).Nodup) : fillA l acc = acc ++ l := by
  induction l generalizing acc with
  | nil => exact (List.append_nil acc).symm
  | cons x r ih =>
    show fillA r (if (acc.lookup x.1).isNone = true then acc ++ [(x.1, x.2)] else acc) = _
    have hn : x.1 ∉ acc.map (·.1) := fun hm => by
      rw [List.map_append, List.nodup_append] at h
      exact h.2.2 x.1 hm x.1 (List.mem_cons_self ..) rfl
    have a : acc ++ x :: r = acc ++ [x] ++ r := (List.append_assoc acc [x] r).symm
    rw [a] at h ⊢
    rw [lookup_none_of hn]
    exact ih h
theorem fill_append : ∀ (l m acc : List (Str × Value)), fillA (l ++ m) acc = fillA m (fillA l acc)
  | [], _, _ => rfl
  | x :: r, m, acc => by
    show fillA (r ++ m) _ = _
    rw [fill_append]; rfl
theorem lookup_zip : ∀ {names : List Str} {vs : List Value}, names.Nodup → names.length = vs.length → names.filterMap (fun n => ((names.zip vs).lookup n).map fun x => (n, x)) = names.zip vs := by
  intro names vs hn hl
  have key : ∀ (names : List Str) (vs : List Value) (pre : List (Str × Value)), (pre.map (·.1) ++ names).Nodup → names.length = vs.length → names.filterMap (fun n => ((pre ++ names.zip vs).lookup n).map fun x => (n, x)) = names.zip vs := by
    intro names
    induction names with
    | nil => intros; rfl
    | cons n r ih =>
      intro vs pre hn hl
      cases vs with
      | nil => cases hl
      | cons v vs =>
        have e : (pre ++ (n :: r).zip (v :: vs)).lookup n = some v := by
          rw [List.lookup_append, lookup_none_of (fun hm => ?_)]
          · simp
          · rw [List.nodup_append] at hn
            exact hn.2.2 n hm n (by simp) rfl
        rw [List.filterMap_cons, e]
        simp only [Option.map_some, List.zip_cons_cons]
        have e2 := ih vs (pre ++ [(n, v)]) (by simpa using hn) (by simpa using hl)
        simp only [List.append_assoc, List.cons_append, List.nil_append] at e2
        rw [e2]
  exact key names vs [] (by simpa using hn) hl

theorem fill_xyz {X Y Z : List Str} {vals U V : List Value} (hnd : (X ++ (Y ++ Z)).Nodup) (hu : Y.length = U.length) (hv : Z.length = V.length) (hx : (X ++ Y).length = vals.length) :
    X.filter (fun n => (((X ++ (Y ++ Z)).zip vals).lookup n).isNone) = [] ∧ (X ++ (Y ++ Z)).filterMap (fun n => ((fillA ((Y ++ Z).zip (U ++ V)) ((X ++ (Y ++ Z)).zip vals)).lookup n).map fun x => (n, x)) = (X ++ (Y ++ Z)).zip (vals ++ V) := by
  have z1 : (X ++ (Y ++ Z)).zip vals = (X ++ Y).zip vals := by
    have := List.zip_append (r₁ := Z) (r₂ := ([] : List Value)) hx
    rw [List.append_assoc, List.append_nil, List.zip_nil_right, List.append_nil] at this
    exact this
  have z3 : (X ++ (Y ++ Z)).zip (vals ++ V) = (X ++ Y).zip vals ++ Z.zip V := by rw [← List.append_assoc, List.zip_append hx]
  have hl : (X ++ (Y ++ Z)).length = (vals ++ V).length := by rw [← List.append_assoc, List.length_append, hx, hv, List.length_append]
  have keys : ((X ++ Y).zip vals).map (·.1) = X ++ Y := List.map_fst_zip (Nat.le_of_eq hx)
  rw [z1]
  constructor
  · rw [List.filter_eq_nil_iff]
    intro n hn
    refine (lookup_some_of (l := (X ++ Y).zip vals) (n := n) (by rw [keys]; exact List.mem_append_left _ hn)).elim fun v hv => ?_
    rw [hv]
    exact Bool.false_ne_true
  · have k : fillA ((Y ++ Z).zip (U ++ V)) ((X ++ Y).zip vals) = (X ++ (Y ++ Z)).zip (vals ++ V) := by
      have o : fillA (Y.zip U) ((X ++ Y).zip vals) = (X ++ Y).zip vals := fill_old fun x hx => by rw [keys]; exact List.mem_append_right _ (List.of_mem_zip hx).1
      have w : fillA (Z.zip V) ((X ++ Y).zip vals) = (X ++ Y).zip vals ++ Z.zip V := fill_new (by rw [← z3, List.map_fst_zip (Nat.le_of_eq hl)]; exact hnd)
      rw [List.zip_append hu, fill_append, o, w, z3]
    rw [k, lookup_zip hnd hl]
theorem bc_len {a b c : Nat} (h1 : b ≤ a) (h2 : c ≤ a) (h3 : a ≤ b + c) : min (a - c) a + min (b + c - a) c = b := by
  rw [Nat.min_eq_left (Nat.sub_le ..), Nat.min_eq_left (Nat.sub_le_of_le_add (by rw [Nat.add_comm c]; exact Nat.add_le_add_right h1 c))]
  rw [← Nat.sub_sub_right b h2, Nat.add_sub_cancel' (Nat.sub_le_iff_le_add.mpr h3)]
theorem bc_list {names : List Str} {vals dv : List Value} (hnd : names.Nodup) (h1 : vals.length ≤ names.length) (h2 : dv.length ≤ names.length) (h3 : names.length ≤ vals.length + dv.length) :
    (names.take (names.length - dv.length)).filter (fun n => ((names.zip vals).lookup n).isNone) = [] ∧ names.filterMap (fun n => ((fillA ((names.drop (names.length - dv.length)).zip dv) (names.zip vals)).lookup n).map fun x => (n, x)) = names.zip (vals ++ dv.drop (vals.length + dv.length - names.length)) := by
  have := fill_xyz (X := names.take (names.length - dv.length)) (Y := (names.drop (names.length - dv.length)).take (vals.length + dv.length - names.length)) (Z := (names.drop (names.length - dv.length)).drop (vals.length + dv.length - names.length)) (vals := vals)
    (U := dv.take (vals.length + dv.length - names.length)) (V := dv.drop (vals.length + dv.length - names.length))
    (by rw [List.take_append_drop, List.take_append_drop]; exact hnd) (by rw [List.length_take, List.length_take, List.length_drop, Nat.sub_sub_self h2]) (by rw [List.length_drop, List.length_drop, List.length_drop, Nat.sub_sub_self h2])
    (by rw [List.length_append, List.length_take, List.length_take, List.length_drop, Nat.sub_sub_self h2]; exact bc_len h1 h2 h3)
  rw [List.take_append_drop, List.take_append_drop, List.take_append_drop] at this
  exact this
/-- a plain parameter list -/
structure PlainPs (p : Arguments) : Prop where
  pos : p.posonlyargs = []
  kwo : p.kwonlyargs = []
  va : p.vararg = none
  kw : p.kwarg = none

theorem wp_ifn {α : Type} {c : Bool} {a b : Sem α} {M : Model} {A : Around} {E : Value → Shared → Prop} {Q : α → Shared → Prop} {s : Shared} (h : c = false) (k : wpAny M A b Q E s) : wpAny M A (if c = true then a else b) Q E s := by subst h; exact k
theorem bind_closed {fd : FuncData} {vals dv : List Value} (hp : PlainPs fd.params) (hnd : (fd.params.args.map (·.arg)).Nodup) (h1 : vals.length ≤ (fd.params.args.map (·.arg)).length) (h2 : dv.length ≤ (fd.params.args.map (·.arg)).length)
    (h3 : (fd.params.args.map (·.arg)).length ≤ vals.length + dv.length) {s : Shared} (hd : ∀ (M : Model) (A : Around) (E : Value → Shared → Prop) (Q : Option (Array Value) → Shared → Prop), (∀ o, (o.getD #[]).toList = dv → Q o s) → wpAny M A (seqItems? fd.defaults) Q E s) :
    BindsTo s fd ⟨vals, []⟩ ((fd.params.args.map (·.arg)).zip (vals ++ dv.drop (vals.length + dv.length - (fd.params.args.map (·.arg)).length))) := by
  cases fd with | mk name qual params body scope globals closure defaults kwd doc pym ann code ct blt => ?_
  cases params with | mk po args va ko kd kw dfl => ?_
  have p1 : po = [] := hp.pos
  have p2 : ko = [] := hp.kwo
  have p3 : va = none := hp.va
  have p4 : kw = none := hp.kw
  clear hp
  subst p1 p2 p3 p4
  intro M A E Q hQ
  dsimp only at hnd h1 h2 h3 hd hQ
  unfold bindArgs
  dsimp only [List.map, List.nil_append, List.forIn_nil, Option.isSome_none, Option.isNone_none]
  generalize args.map (·.arg) = names at *
  refine wpAny_bind (wpAny_pure (wpAny_bind (hd M A E _ fun o ho => ?_)))
  dsimp only
  have c1 : (decide (vals.length > names.length) && true) = false := by rw [decide_eq_false (Nat.not_lt.mpr h1)]; rfl
  have L := bc_list hnd h1 h2 h3
  have hz : dv.drop (dv.length - names.length) = dv := by rw [Nat.sub_eq_zero_of_le h2]; rfl
  rw [ho]
  refine wp_ifn c1 (wp_ifn (by rw [hz, L.1]; rfl) (wpAny_bind ?_))
  rw [hz, fill_forIn]
  refine wpAny_pure ?_
  exact wpAny_bind (wpAny_pure (wp_ifn rfl (wpAny_pure (by rw [List.append_nil, L.2]; exact hQ))))
end Mine
end

section
open PySem PySem.W PyProof.Rows PySem.Calls
set_option maxRecDepth 100000
namespace Mine

/-- a function: its parameters, the last ones' defaults, its body -/
structure Fn where
  ps : List Nat
  dfl : List D
  body : List PS

section
variable {kd : Str → Option NameKind} {n x : Str} {u v : Value} {r : List (Str × Value)} {m : Str → Option Value}
theorem bL_t (h : kd n = some .local) : bindL kd ((n, u) :: r) m = bindL kd r (fun y => if y = n then some u else m y) := congrArg (bindL kd r) (if_pos h)
theorem bL_f (h : ¬ kd n = some .local) : bindL kd ((n, u) :: r) m = bindL kd r m := congrArg (bindL kd r) (if_neg h)
theorem bC_t (h : kd n = some .local) : bindC kd ((n, u) :: r) m = bindC kd r m := congrArg (bindC kd r) (if_pos h)
theorem bC_f (h : ¬ kd n = some .local) : bindC kd ((n, u) :: r) m = bindC kd r (fun y => if y = n then some u else m y) := congrArg (bindC kd r) (if_neg h)
theorem bindL_off (h : x ∉ r.map (·.1)) : bindL kd r m x = m x := by
  induction r generalizing m with
  | nil => rfl
  | cons p r ih =>
    cases p with | mk n v => ?_
    have h1 : x ≠ n := fun q => h (List.mem_cons.mpr (.inl q))
    have h2 := fun q => h (List.mem_cons.mpr (.inr q))
    by_cases q : kd n = some .local
    · rw [bL_t q, ih h2, if_neg h1]
    · rw [bL_f q, ih h2]
theorem bindL_at (hn : (r.map (·.1)).Nodup) (h : (x, v) ∈ r) (hk : kd x = some .local) : bindL kd r m x = some v := by
  induction r generalizing m with
  | nil => exact nomatch h
  | cons p r ih =>
    cases p with | mk n u => ?_
    rw [List.map_cons, List.nodup_cons] at hn
    rcases List.mem_cons.mp h with e | h
    · have e1 := congrArg Prod.fst e
      have e2 := congrArg Prod.snd e
      dsimp only at e1 e2
      subst e1 e2
      rw [bL_t hk, bindL_off hn.1, if_pos rfl]
    · by_cases q : kd n = some .local
      · rw [bL_t q]; exact ih hn.2 h
      · rw [bL_f q]; exact ih hn.2 h
theorem bindC_off (h : x ∉ r.map (·.1)) : bindC kd r m x = m x := by
  induction r generalizing m with
  | nil => rfl
  | cons p r ih =>
    cases p with | mk n v => ?_
    have h1 : x ≠ n := fun q => h (List.mem_cons.mpr (.inl q))
    have h2 := fun q => h (List.mem_cons.mpr (.inr q))
    by_cases q : kd n = some .local
    · rw [bC_t q, ih h2]
    · rw [bC_f q, ih h2, if_neg h1]
theorem bindC_at (hn : (r.map (·.1)).Nodup) (h : (x, v) ∈ r) (hk : ¬ kd x = some .local) : bindC kd r m x = some v := by
  induction r generalizing m with
  | nil => exact nomatch h
  | cons p r ih =>
    cases p with | mk n u => ?_
    rw [List.map_cons, List.nodup_cons] at hn
    rcases List.mem_cons.mp h with e | h
    · have e1 := congrArg Prod.fst e
      have e2 := congrArg Prod.snd e
      dsimp only at e1 e2
      subst e1 e2
      rw [bC_f hk, bindC_off hn.1, if_pos rfl]
    · by_cases q : kd n = some .local
      · rw [bC_t q]; exact ih hn.2 h
      · rw [bC_f q]; exact ih hn.2 h
end
theorem lookup_of_nodup {α : Type} {l : List (Str × α)} {x : Str} {c : α} (hn : (l.map (·.1)).Nodup) (h : (x, c) ∈ l) : l.lookup x = some c := by
  induction l with
  | nil => exact nomatch h
  | cons p r ih =>
    rw [List.map_cons, List.nodup_cons] at hn
    rw [List.lookup_cons]
    rcases List.mem_cons.mp h with e | h
    · rw [← e, beq_self_eq_true]
    · rw [beq_eq_false_iff_ne.mpr (fun (q : x = p.1) => hn.1 (q ▸ List.mem_map_of_mem (f := fun y : Str × α => y.1) h))]
      exact ih hn.2 h

/-- what is looked at of a function -/
noncomputable def fdOK (K : Frag) (fd : FuncData) : Bool := match fd.body with
  | .stmts _ => fd.params.posonlyargs.isEmpty && fd.params.kwonlyargs.isEmpty && fd.params.vararg.isNone && fd.params.kwarg.isNone && Nat.beq fd.globals mainGlobals && Nat.beq fd.builtins builtinsNs && fd.closure.isEmpty && codeIn K fd.code fd.qualname &&
      nodupB (fd.params.args.map (·.arg)) && fd.params.args.all (fun a => nmOk a.arg (enc a.arg) && isVar fd.scope a.arg && (fd.scope.names.lookup a.arg == some .local || fd.scope.names.lookup a.arg == some .cell)) &&
      !fd.scope.isCoroutine && !fd.scope.isGenerator && (fd.scope.kind == .function) && fd.scope.names.all (fun y => !(y.2 == .free)) && nodupB ((cellsFrom 0 fd.scope.names []).map (·.1))
  | _ => false
structure FdOK (K : Frag) (fd : FuncData) : Prop where
  body : ∃ st, fd.body = .stmts st
  ps : PlainPs fd.params
  gl : fd.globals = mainGlobals
  bl : fd.builtins = builtinsNs
  clo : fd.closure = []
  code : codeIn K fd.code fd.qualname = true
  nd : (fd.params.args.map (·.arg)).Nodup
  arg : ∀ a ∈ fd.params.args, dec (enc a.arg) = a.arg ∧ isVar fd.scope a.arg = true ∧ (fd.scope.names.lookup a.arg = some .local ∨ fd.scope.names.lookup a.arg = some .cell)
  co : fd.scope.isCoroutine = false
  gen : fd.scope.isGenerator = false
  kind : fd.scope.kind = .function
  fr : ∀ y ∈ fd.scope.names, ¬ y.2 = .free
  cnd : ((cellsFrom 0 fd.scope.names []).map (·.1)).Nodup
theorem fdOK_inv {K : Frag} {fd : FuncData} (h : fdOK K fd = true) : FdOK K fd := by
  unfold fdOK at h
  cases hb : fd.body with
  | expr e => rw [hb] at h; exact nf h
  | stmts st =>
    rw [hb] at h
    dsimp only at h
    simp only [Bool.and_eq_true, List.all_eq_true, Bool.or_eq_true, beq_iff_eq, Bool.not_eq_true', beq_eq_false_iff_ne] at h
    obtain ⟨⟨⟨⟨⟨⟨⟨⟨⟨⟨⟨⟨⟨⟨c1, c2⟩, c3⟩, c4⟩, c5⟩, c6⟩, c7⟩, c8⟩, c9⟩, c10⟩, c11⟩, c12⟩, c13⟩, c14⟩, c15⟩ := h
    exact ⟨⟨st, hb⟩, ⟨List.isEmpty_iff.mp c1, List.isEmpty_iff.mp c2, Option.isNone_iff_eq_none.mp c3, Option.isNone_iff_eq_none.mp c4⟩, Nat.eq_of_beq_eq_true c5, Nat.eq_of_beq_eq_true c6, List.isEmpty_iff.mp c7, c8, nodup_of c9, fun a ha => ⟨nmOk.d (c10 a ha).1.1, (c10 a ha).1.2, (c10 a ha).2⟩, c11, c12, c13, c14, nodup_of c15⟩
noncomputable def fdBody (fd : FuncData) : List PS := match fd.body with
  | .stmts l => cB fd.scope l
  | _ => []
/-- values that are plain data by themselves -/
noncomputable def flatV : Value → Option D
  | .none => some .none
  | .bool b => some (.bool b)
  | .int i _ => some (.int i)
  | .str s _ => some (.str s)
  | _ => none
noncomputable def flatVs : List Value → Option (List D)
  | [] => some []
  | v :: r => match flatV v with
    | some d => (flatVs r).map (d :: ·)
    | none => none
noncomputable def seqD (d : Data) : Option (List Value) := match d with
  | .seq xs _ => some xs.toList
  | _ => none
noncomputable def dflIn (K : Frag) (v : Value) : Option (List Value) := match v with
  | .none => some []
  | .ref a => match K.lookup a with
    | some o => seqD o.data
    | none => none
  | _ => none
structure FnIs (K : Frag) (v0 : Value) (fn : Fn) : Prop where
  it : ∃ a oc od sl fd dv, v0 = .ref a ∧ K.lookup a = some ⟨oc, od, .func fd, sl⟩ ∧ fdOK K fd = true ∧ fn.ps = fd.params.args.map (fun x => enc x.arg) ∧ fn.body = fdBody fd ∧ dflIn K fd.defaults = some dv ∧ dv.length ≤ fd.params.args.length ∧
    flatVs (dv.drop (dv.length - fn.dfl.length)) = some fn.dfl

section
variable {prog : Program} {w : World} {K : Frag} {mg mb : Str → Option Value} {P P' W W' : Addr → Prop} {A : Around} {E : Value → Shared → Prop} {s s' : Shared} {env : Env} {sc : Scope} {h h' h₀ : Heap} {ρ ρ' : List (Nat × D)} {o : Option (Nat × D)}
variable {Γ : Nat → List D → Option D} {Γm : Nat → D → List D → Option D} {isi : D → Nat → Option Bool} {kn : Nat → Bool} {fo : Nat → Nat → Bool} {n : Nat} {Γk : Nat → List D → Option (List (Nat × D))} {Γu : Nat → Nat → List (Nat × D) → List D → Option (List (Nat × D))}

theorem flatV_rel {v : Value} {d : D} (e : flatV v = some d) : RelV prog w mg P h v d := by
  cases v with
  | none => exact Option.some.inj e ▸ .none
  | bool _ => exact Option.some.inj e ▸ .bool _
  | int _ _ => exact Option.some.inj e ▸ .int _ _
  | str _ _ => exact Option.some.inj e ▸ .str _ _
  | _ => exact nn e
theorem flatVs_rel {vs : List Value} {ds : List D} (e : flatVs vs = some ds) : RelL prog w mg P h vs ds := by
  induction vs generalizing ds with
  | nil => exact Option.some.inj e ▸ .nil
  | cons v r ih =>
    apply iD e; clear e; intro d hd e
    apply iM e; clear e; intro x hx e
    exact e ▸ .cons (flatV_rel hd) (ih hx)
theorem seqD_inv {d : Data} {l : List Value} {G : Prop} (e : seqD d = some l) (k : ∀ xs n, d = .seq xs n → xs.toList = l → G) : G := by
  cases d with
  | seq xs n => exact k xs n rfl (Option.some.inj e)
  | _ => exact nn e
theorem iOb {β : Type} {d : β} {G : Prop} {o : Option Obj} {f : Obj → Option β} (h : (match o with | some x => f x | none => none) = some d) (k : ∀ x, o = some x → f x = some d → G) : G := by
  cases o with
  | none => exact nn h
  | some x => exact k x rfl h
theorem dflIn_seq {M : Model} {v : Value} {dv : List Value} {Q : Option (Array Value) → Shared → Prop} (X : K.In s.heap) (e : dflIn K v = some dv) (h : ∀ o, (o.getD #[]).toList = dv → Q o s) : wpAny M A (seqItems? v) Q E s := by
  cases v with
  | none => exact wpAny_of_eq (a := Option.none) rfl (h Option.none (Option.some.inj e))
  | ref a =>
    apply iOb e; clear e; intro o ho e
    apply seqD_inv e; clear e; intro xs n hd e
    exact wpAny_seqItems (X _ _ ho) hd (h (some xs) e)
  | _ => exact nn e

theorem AOK.deeper (h : AOK (n + 1) A) (env : Env) : AOK n (A.deeper env) := by
  have e1 : A.units + 3 + 8 * n = A.units + 8 * n + 3 := Nat.add_right_comm ..
  have e2 : A.units + 8 * (n + 1) = A.units + 8 * n + 8 := (Nat.add_assoc ..).symm
  refine ⟨h.1, ?_, Nat.lt_of_le_of_lt ?_ h.2.2⟩
  · show A.depth + 1 + n < recursionLimit
    rw [Nat.add_right_comm]; exact h.2.1
  · show A.units + 3 + 8 * n + 200 ≤ A.units + 8 * (n + 1) + 200
    rw [e1, e2]
    exact Nat.add_le_add_right (Nat.add_le_add_left (show 3 ≤ 8 by decide) _) _

/-- the data of a frame's names -/
noncomputable def zipD : List Nat → List D → List (Nat × D)
  | x :: xs, d :: ds => (x, d) :: zipD xs ds
  | _, _ => []
theorem look_zip {xs : List Str} {vs : List Value} {ds : List D} {x : Str} {d : D} (hy : ∀ y ∈ xs, dec (enc y) = y) (r : RelL prog w mg P h vs ds) (hx : dec (enc x) = x) (e : look (zipD (xs.map enc) ds) (enc x) = some d) : ∃ v, (x, v) ∈ xs.zip vs ∧ RelV prog w mg P h v d := by
  induction xs generalizing vs ds with
  | nil => exact nn e
  | cons y ys ih =>
    cases ds with
    | nil => exact nn e
    | cons d' ds =>
      apply RelL.eCons r; clear r; intro v vs a b
      cases q : Nat.beq (enc y) (enc x) with
      | true =>
        have e := Option.some.inj ((lookT (p := (enc y, d')) q).symm.trans e)
        have : y = x := (hy y (List.mem_cons_self ..)).symm.trans ((congrArg dec (Nat.eq_of_beq_eq_true q)).trans hx)
        exact ⟨v, this ▸ List.mem_cons_self .., e ▸ a⟩
      | false => exact (ih (fun z hz => hy z (List.mem_cons_of_mem _ hz)) b ((lookF (p := (enc y, d')) q).symm.trans e)).imp fun u H => ⟨List.mem_cons_of_mem _ H.1, H.2⟩

/-- the frame's state when its body begins -/
theorem St.enter {fd : FuncData} {a : Addr} {vals : List Value} {names : List Str} (hok : FdOK K fd) (hnames : names = fd.params.args.map (·.arg)) (hlen : names.length = vals.length) {s₁ : Shared}
    (G : Gd K mg mb h₀) (gk : ∀ b o, h₀.get? b = some o → s.heap.get? b = some o) (F : FreshIn P s.heap)
    (x : InCallC s (callEnvC fd s.heap.objs.size a).locals (bindL (callEnvC fd s.heap.objs.size a).kindOf (names.zip vals) fun _ => none) (callEnvC fd s.heap.objs.size a).cells (bindC (callEnvC fd s.heap.objs.size a).kindOf (names.zip vals) fun _ => none) s₁)
    (hvar : ∀ y d, isVar fd.scope y = true → dec (enc y) = y → look ρ (enc y) = some d → ∃ v, (y, v) ∈ names.zip vals ∧ RelV prog w mg P s.heap v d)
    (hW : ∀ b, W b → h₀.get? b = none ∧ ¬ P b ∧ (s.heap.get? b).isSome = true)
    (hown : match o with
      | none => ∀ b, ¬ W b
      | some (m, d) => ∃ y v, enc y = m ∧ dec m = y ∧ isVar fd.scope y = true ∧ (y, v) ∈ names.zip vals ∧ OwnV prog w mg P s.heap v d W) :
    ∃ P₁ : Addr → Prop, (∀ b, P₁ b → P b) ∧ (∀ b, Wr (callEnvC fd s.heap.objs.size a) (fun _ => False) b → s.heap.get? b = none) ∧ St prog w K mg mb h₀ (callEnvC fd s.heap.objs.size a) fd.scope P₁ W s₁ ρ o := by
  have hnd : names.Nodup := by rw [hnames]; exact hok.nd
  generalize hE : callEnvC fd s.heap.objs.size a = env at *
  have e1 : env.scope = fd.scope := by subst hE; rfl
  have e2 : env.locals = s.heap.objs.size := by subst hE; rfl
  have e3 : env.globals = mainGlobals := by subst hE; exact hok.gl
  have e4 : env.builtins = builtinsNs := by subst hE; exact hok.bl
  have e5 : env.cells = cellsFrom (s.heap.objs.size + 1) fd.scope.names [] := by subst hE; rfl
  have kd : ∀ y, env.kindOf y = fd.scope.names.lookup y := fun y => by unfold Env.kindOf; rw [e1]
  have cnd : (env.cells.map (·.1)).Nodup := by rw [e5, cellsFrom_names _ _ 0 [] [] rfl]; exact hok.cnd
  have clook : ∀ y c, (y, c) ∈ env.cells → env.cells.lookup y = some c := fun y c h => lookup_of_nodup cnd h
  have hkeep := x.toInCall.keep
  have newWr : ∀ b, Wr env (fun _ => False) b → s.heap.get? b = none ∧ (s₁.heap.get? b).isSome = true := by
    rintro b (rfl | ⟨y, hy⟩ | hb)
    · refine ⟨by rw [e2]; exact get_size _, ?_⟩
      refine hide fun Gg kg => ?_
      obtain ⟨_, _, _, q, _⟩ := x.toInCall.ns
      refine kg ?_; clear kg Gg
      exact isSome_of q
    · refine hide fun Gg kg => ?_
      obtain ⟨oc, hoc, _⟩ := x.cell y b (clook y b hy)
      refine kg ?_; clear kg Gg
      refine ⟨?_, isSome_of hoc⟩
      have := x.above y b hy
      rw [e2] at this
      cases q : s.heap.get? b with
      | none => rfl
      | some o => exact absurd (Nat.lt_trans (Heap.lt_size q) this) (Nat.lt_irrefl _)
    · exact hb.elim
  have hmemkind : ∀ y v, (y, v) ∈ names.zip vals → fd.scope.names.lookup y = some .local ∨ fd.scope.names.lookup y = some .cell := fun y v h => by
    have := (List.of_mem_zip h).1
    rw [hnames] at this
    refine hide fun Gg kg => ?_
    obtain ⟨ar, har, rfl⟩ := List.mem_map.mp this
    refine kg ?_; clear kg Gg
    exact (hok.arg ar har).2.2
  have zn : ((names.zip vals).map (·.1)).Nodup := by rw [List.map_fst_zip (Nat.le_of_eq hlen)]; exact hnd
  have cellOf : ∀ y, fd.scope.names.lookup y = some .cell → ∃ c, env.cells.lookup y = some c := fun y h => by
    have := cellsFrom_some (x := y) fd.scope.names (s.heap.objs.size + 1) [] (.inl h)
    rw [← e5] at this
    exact Option.isSome_iff_exists.mp this
  have varat : ∀ y v, (y, v) ∈ names.zip vals → VarAt env s₁.heap y v := fun y v h => by
    rcases hmemkind y v h with hk | hk
    · exact .inl ⟨(kd y).trans hk, _, x.toInCall.ns, bindL_at zn h ((kd y).trans hk)⟩
    · obtain ⟨c, hc⟩ := cellOf y hk
      refine .inr ⟨.inl ((kd y).trans hk), c, hc, ?_⟩
      have := x.cell y c hc
      rwa [bindC_at zn h (fun q => nomatch hk.symm.trans ((kd y).symm.trans q))] at this
  refine ⟨fun b => P b ∧ ¬ Wr env (fun _ => False) b, fun b p => p.1, fun b q => (newWr b q).1, ?_⟩
  have kP : ∀ b o, P b → s.heap.get? b = some o → s₁.heap.get? b = some o ∧ (P b ∧ ¬ Wr env (fun _ => False) b) := fun b o p e => ⟨hkeep b o e, p, fun q => by rw [(newWr b q).1] at e; cases e⟩
  refine ⟨G, fun b o e => hkeep b o (gk b o e), fun b q => ?_, fun b e => ⟨(F.keeps hkeep) b e, fun q => ?_⟩, fun b q => ?_, ⟨by rw [e1]; exact hok.kind, e3, e4, fun y d hv hd hl => ?_, fun y hy => ?_, fun y hy => (kd y).trans hy, fun y hy => .inl ((kd y).trans hy)⟩, e1, ⟨_, x.toInCall.ns⟩, fun y c hc => ⟨_, x.cell y c (clook y c hc)⟩, x.apart, fun y c hc => Nat.ne_of_gt (x.above y c hc), ?_⟩
  · rcases q with q | q | q
    · cases z : h₀.get? b with
      | none => rfl
      | some o => have := gk b o z; rw [(newWr b (.inl q)).1] at this; exact nn this
    · cases z : h₀.get? b with
      | none => rfl
      | some o => have := gk b o z; rw [(newWr b (.inr (.inl q))).1] at this; exact nn this
    · exact (hW b q).1
  · have := (newWr b q).2
    rw [e] at this; first | exact nn this | exact nf this
  · rcases q with q | q | q
    · exact fun z => z.2 (.inl q)
    · exact fun z => z.2 (.inr (.inl q))
    · exact fun z => (hW b q).2.1 z.1
  · refine hide fun Gg kg => ?_
    obtain ⟨v, hm, r⟩ := hvar y d hv hd hl
    refine kg ?_; clear kg Gg
    exact ⟨v, varat y v hm, r.mono kP⟩
  · have hk : fd.scope.names.lookup y = some .cell ∨ fd.scope.names.lookup y = some .free := by rw [← kd]; exact hy
    rcases hk with hk | hk
    · exact cellOf y hk
    · exact absurd rfl (hok.fr _ (mem_of_look hk))
  · cases o with
    | none => exact hown
    | some p =>
      refine hide fun Gg kg => ?_
      obtain ⟨m, d⟩ := p
      obtain ⟨y, v, h1, h2, h3, h4, h5⟩ := hown
      refine kg ?_; clear kg Gg
      refine ⟨y, v, h1, h2, h3, varat y v h4, h5.mono (fun b o _ e => hkeep b o e) (fun b o p e => (kP b o p e).2), fun b q => ?_⟩
      have hb := (hW b q).2.2
      refine ⟨fun z => ?_, fun z hz => ?_⟩
      · rw [(newWr b (.inl z)).1] at hb; first | exact nn hb | exact nf hb
      · rw [(newWr b (.inr (.inl ⟨z, hz⟩))).1] at hb; first | exact nn hb | exact nf hb
end
end Mine
end

section
open PySem PySem.W PyProof.Rows PySem.Calls
set_option maxRecDepth 100000
namespace Mine

section
variable (Γ : Nat → List D → Option D) (Γm : Nat → D → List D → Option D) (isi : D → Nat → Option Bool) (kn : Nat → Bool) (fo : Nat → Nat → Bool)
  (Γk : Nat → List D → Option (List (Nat × D))) (Γu : Nat → Nat → List (Nat × D) → List D → Option (List (Nat × D)))
/-- the data of the parameters -/
noncomputable def argD (ps : List Nat) (dfl args : List D) : Option (List (Nat × D)) :=
  if Nat.ble args.length ps.length && Nat.ble ps.length (args.length + dfl.length) && Nat.ble dfl.length ps.length then some (zipD ps (args ++ dfl.drop (args.length + dfl.length - ps.length))) else none
noncomputable def outFn (o : Option Out) : Option D := match o with
  | some out => match out with
    | .ret d => some d
    | .next _ _ => some .none
    | .cont _ _ => none
  | none => none
noncomputable def outMut (c : Nat) (o : Option Out) : Option (List (Nat × D)) := match o with
  | some out => match out with
    | .next _ x => match x with
      | some p => match p.2 with
        | .inst c' fs => if Nat.beq c' c then some fs else none
        | _ => none
      | none => none
    | _ => none
  | none => none
noncomputable def runFn (fn : Fn) (args : List D) : Option D := match argD fn.ps fn.dfl args with
  | some ρ => outFn (evB Γ Γm isi kn fo Γk Γu fn.body ρ none)
  | none => none
/-- the first parameter's object is written -/
noncomputable def runMut (fn : Fn) (c : Nat) (fs : List (Nat × D)) (args : List D) : Option (List (Nat × D)) := match fn.ps with
  | x :: ps => match argD ps fn.dfl args with
    | some ρ => if isNone' (look ρ x) then outMut c (evB Γ Γm isi kn fo Γk Γu fn.body ρ (some (x, .inst c fs))) else none
    | none => none
  | [] => none
theorem outFn_inv {o : Option Out} {d : D} {G : Prop} (e : outFn o = some d) (k1 : o = some (.ret d) → G) (k2 : ∀ ρ x, o = some (.next ρ x) → D.none = d → G) : G := by
  cases o with
  | none => exact nn e
  | some out =>
    cases out with
    | ret d' => exact k1 (congrArg (fun d => some (Out.ret d)) (Option.some.inj e))
    | next ρ x => exact k2 ρ x rfl (Option.some.inj e)
    | cont => exact nn e
theorem outMut_inv {c : Nat} {o : Option Out} {fs : List (Nat × D)} {G : Prop} (e : outMut c o = some fs) (k : ∀ ρ x, o = some (.next ρ (some (x, .inst c fs))) → G) : G := by
  cases o with
  | none => exact nn e
  | some out =>
    cases out with
    | next ρ x =>
      cases x with
      | none => exact nn e
      | some p =>
        cases p with | mk x d => ?_
        cases d with
        | inst c' fs' =>
          apply iB e; clear e; intro hc e
          exact k ρ x (Nat.eq_of_beq_eq_true hc ▸ Option.some.inj e ▸ rfl)
        | _ => exact nn e
    | _ => exact nn e
end

section
variable {prog : Program} {w : World} {K : Frag} {mg mb : Str → Option Value} {P P' W W' : Addr → Prop} {A : Around} {E : Value → Shared → Prop} {s s' : Shared} {env : Env} {sc : Scope} {h h' h₀ : Heap} {ρ ρ' : List (Nat × D)} {o : Option (Nat × D)}
variable {Γ : Nat → List D → Option D} {Γm : Nat → D → List D → Option D} {isi : D → Nat → Option Bool} {kn : Nat → Bool} {fo : Nat → Nat → Bool} {n : Nat} {Γk : Nat → List D → Option (List (Nat × D))} {Γu : Nat → Nat → List (Nat × D) → List D → Option (List (Nat × D))}

theorem FnIs.keep {v0 : Value} {fn : Fn} (F : FnIs K v0 fn) (h : Heap) (G : Gd K mg mb h) : ∃ k, (k = Keeper.frame ∨ k = Keeper.machine ∨ k = Keeper.boundFrame) ∧ Looks (model prog w) h (keeperOf v0) k := by
  refine hide fun Gg kg => ?_
  obtain ⟨a, oc, od, sl, fd, dv, rfl, hl, _⟩ := F.it
  refine kg ?_; clear kg Gg
  exact ⟨.frame, .inl rfl, (Looks.ld (part := none) (G.X _ _ hl)).andThen .now⟩
theorem flatVs_length {vs : List Value} {ds : List D} (e : flatVs vs = some ds) : vs.length = ds.length := by
  induction vs generalizing ds with
  | nil => exact Option.some.inj e ▸ rfl
  | cons v r ih =>
    apply iD e; clear e; intro d _ e
    apply iM e; clear e; intro x hx e
    exact e ▸ congrArg Nat.succ (ih hx)

noncomputable def consV : Option (Nat × Value × D) → List Value → List Value
  | none, vs => vs
  | some x, vs => x.2.1 :: vs
noncomputable def consP : Option (Nat × Value × D) → List Nat → List Nat
  | none, ps => ps
  | some x, ps => x.1 :: ps
noncomputable def OwnArg (prog : Program) (w : World) (mg : Str → Option Value) (P W : Addr → Prop) (h : Heap) : Option (Nat × Value × D) → Prop
  | none => ∀ b, ¬ W b
  | some x => OwnV prog w mg P h x.2.1 x.2.2 W
theorem argD_inv {ps : List Nat} {dfl args : List D} {G : Prop} (h : argD ps dfl args = some ρ) (k : args.length ≤ ps.length → ps.length ≤ args.length + dfl.length → zipD ps (args ++ dfl.drop (args.length + dfl.length - ps.length)) = ρ → G) : G := by
  apply iB h; clear h; intro hc h
  have hc := Bool.and_eq_true_iff.mp (Bool.and_eq_true_iff.mp hc).1
  exact k (Nat.le_of_ble_eq_true hc.1) (Nat.le_of_ble_eq_true hc.2) (Option.some.inj h)
theorem fc_num {e N G D L : Nat} (l2 : N ≤ G + L) (hL : L ≤ D) : G + e + D - (N + e) = D - L + (G + L - N) := by
  rw [Nat.add_right_comm, Nat.add_sub_add_right, ← Nat.add_sub_assoc l2, Nat.add_comm G L, ← Nat.add_assoc, Nat.sub_add_cancel hL, Nat.add_comm]
theorem fc_len {V D M : Nat} (h1 : V ≤ M) (h2 : M ≤ V + D) : M = V + (D - (V + D - M)) :=
  (Nat.exists_eq_add_of_le h1).elim fun k e => by subst e; rw [Nat.add_sub_add_left, Nat.sub_sub_self (Nat.le_of_add_le_add_left h2)]
theorem cons_len (own : Option (Nat × Value × D)) (ps : List Nat) (vs : List Value) : ∃ e, (consP own ps).length = ps.length + e ∧ (consV own vs).length = vs.length + e := by
  cases own with
  | none => exact ⟨0, rfl, rfl⟩
  | some x => exact ⟨1, rfl, rfl⟩
theorem cons_names {own : Option (Nat × Value × D)} {ps : List Nat} {names : List Str} {vs : List Value} (h : names.map enc = consP own ps) {G : Prop} (k1 : own = none → names.map enc = ps → G) (k2 : ∀ p x0 xs, own = some p → names = x0 :: xs → enc x0 = p.1 → xs.map enc = ps → G) : G := by
  cases own with
  | none => exact k1 rfl h
  | some p =>
    cases names with
    | nil => exact nomatch h
    | cons x0 xs =>
      have h := List.cons.inj h
      exact k2 p x0 xs rfl rfl h.1 h.2
theorem enter_var {own : Option (Nat × Value × D)} {ps : List Nat} {names : List Str} {vs dvs : List Value} {args dds : List D} (h : names.map enc = consP own ps) (hy : ∀ y ∈ names, dec (enc y) = y) (rl : RelL prog w mg P s.heap vs args) (rd : RelL prog w mg P s.heap dvs dds)
    (y : Str) (d : D) (hd : dec (enc y) = y) (hl : look (zipD ps (args ++ dds)) (enc y) = some d) : ∃ v, (y, v) ∈ names.zip (consV own vs ++ dvs) ∧ RelV prog w mg P s.heap v d := by
  apply cons_names (vs := vs) h
  · intro h1 h2
    subst h1
    rw [← h2] at hl
    exact look_zip hy (rl.append rd) hd hl
  · intro p x0 xs h1 h2 _ h4
    subst h1 h2
    rw [← h4] at hl
    exact (look_zip (fun z hz => hy z (List.mem_cons_of_mem _ hz)) (rl.append rd) hd hl).imp fun u H => ⟨List.mem_cons_of_mem _ H.1, H.2⟩
theorem enter_own {own : Option (Nat × Value × D)} {ps : List Nat} {names : List Str} {vs dvs : List Value} (h : names.map enc = consP own ps) (hy : ∀ y ∈ names, dec (enc y) = y ∧ isVar sc y = true) (ho : OwnArg prog w mg P W s.heap own) :
    match own.map fun x => (x.1, x.2.2) with
      | none => ∀ b, ¬ W b
      | some (m, d) => ∃ y v, enc y = m ∧ dec m = y ∧ isVar sc y = true ∧ (y, v) ∈ names.zip (consV own vs ++ dvs) ∧ OwnV prog w mg P s.heap v d W := by
  apply cons_names (vs := vs) h
  · intro h1 _
    subst h1
    exact ho
  · intro p x0 xs h1 h2 h3 _
    subst h1 h2
    have z := hy x0 (List.mem_cons_self ..)
    exact ⟨x0, p.2.1, h3, h3 ▸ z.1, z.2, List.mem_cons_self .., ho⟩
/-- a function's call, down to its body: own : the first argument's object is the frame's own -/
theorem fn_call {v0 : Value} {fn : Fn} (FI : FnIs K v0 fn) {vs : List Value} {own : Option (Nat × Value × D)} {nps : List Nat} {args : List D} {R : Result → Shared → Prop} (hA : AOK (n + 1) A) (G : Gd K mg mb h₀) (gk : ∀ b o, h₀.get? b = some o → s.heap.get? b = some o) (F : FreshIn P s.heap)
    (hps : fn.ps = consP own nps)
    (rl : RelL prog w mg P s.heap vs args) (hρ : argD nps fn.dfl args = some ρ)
    (hW : ∀ b, W b → h₀.get? b = none ∧ ¬ P b ∧ (s.heap.get? b).isSome = true)
    (hown : OwnArg prog w mg P W s.heap own)
    (hbody : ∀ (env : Env) (sc : Scope) (st : List Stmt) (P₁ : Addr → Prop) (s₁ : Shared), (∃ a oc od fd sl, v0 = .ref a ∧ K.lookup a = some ⟨oc, od, .func fd, sl⟩ ∧ sc = fd.scope ∧ fd.body = .stmts st) → env.frame = some env.locals → RepB sc st fn.body → (∃ h t, s₁ = { s with heap := h, toks := t }) → (∀ b o, s.heap.get? b = some o → s₁.heap.get? b = some o) → (∀ b, P₁ b → P b) → (∀ b, Wr env (fun _ => False) b → s.heap.get? b = none) →
      St prog w K mg mb h₀ env sc P₁ W s₁ ρ (own.map fun x => (x.1, x.2.2)) →
      wpAny (model prog w) (A.deeper env) (execs st env) (fun f s' => R (.ok (.ret (match f with | .ret v => v | _ => .none))) s')
        (fun e s' => wpAny (model prog w) (A.deeper env) (leaving env e) (fun _ s'' => R (.error e) s'') (fun e' s'' => R (.error e') s'') s') s₁) :
    codeAny (model prog w) A (.call v0 ⟨consV own vs, []⟩) R s := by
  refine hide fun Gg kg => ?_
  obtain ⟨a, oc, od, sl, fd, dv, rfl, hl, hok, hpsn, hbd, hdv, hdvl, hfl⟩ := FI.it
  refine kg ?_; clear kg Gg
  have H := fdOK_inv hok
  clear hok
  have X := (G.keeps gk).X
  have hpe : (fd.params.args.map (·.arg)).map enc = consP own nps := by rw [List.map_map]; exact hpsn.symm.trans hps
  have hfl' : fn.dfl.length ≤ dv.length := by have := flatVs_length hfl; rw [List.length_drop] at this; exact this ▸ Nat.sub_le ..
  apply argD_inv hρ; clear hρ; intro l1 l2 hρ
  refine (cons_len own nps vs).elim fun e hn => ?_
  have hN : (fd.params.args.map (·.arg)).length = nps.length + e := (List.length_map (f := enc)).symm.trans ((congrArg List.length hpe).trans hn.1)
  have hV : (consV own vs).length = args.length + e := hn.2.trans (congrArg (· + e) rl.length)
  have hlen1 : (consV own vs).length ≤ (fd.params.args.map (·.arg)).length := by rw [hN, hV]; exact Nat.add_le_add_right l1 e
  have hlen2 : (fd.params.args.map (·.arg)).length ≤ (consV own vs).length + dv.length := by rw [hN, hV, Nat.add_right_comm]; exact Nat.add_le_add_right (Nat.le_trans l2 (Nat.add_le_add_left hfl' _)) e
  have hb := bind_closed (fd := fd) (vals := consV own vs) (dv := dv) H.ps H.nd hlen1 (by rw [List.length_map]; exact hdvl) hlen2 (s := s) (fun M A E Q h => dflIn_seq X hdv h)
  have rdfl : RelL prog w mg P s.heap (dv.drop ((consV own vs).length + dv.length - (fd.params.args.map (·.arg)).length)) (fn.dfl.drop (args.length + fn.dfl.length - nps.length)) := by
    rw [hV, hN, fc_num l2 hfl', ← List.drop_drop]; exact (flatVs_rel hfl).drop _
  have hvl2 : (fd.params.args.map (·.arg)).length = (consV own vs ++ dv.drop ((consV own vs).length + dv.length - (fd.params.args.map (·.arg)).length)).length := by
    rw [List.length_append, List.length_drop]; exact fc_len hlen1 hlen2
  refine H.body.elim fun body hbody' => ?_
  refine codeAny_call_function (Nat.lt_of_le_of_lt (Nat.le_add_right ..) hA.2.1) (X _ _ hl) rfl H.co H.gen hbody' (codeRec_of X H.code) (hb _ _ _ _ ?_)
  clear hb hlen1 hlen2 hN hV hfl' l1 l2 hfl hdvl hdv hn e
  generalize dv.drop ((consV own vs).length + dv.length - (fd.params.args.map (·.arg)).length) = dvs at rdfl hvl2
  rw [H.clo]
  have argOf : ∀ y ∈ fd.params.args.map (·.arg), dec (enc y) = y ∧ isVar fd.scope y = true ∧ (fd.scope.names.lookup y = some .local ∨ fd.scope.names.lookup y = some .cell) := fun y hy => (List.mem_map.mp hy).elim fun ar q => q.2 ▸ H.arg ar q.1
  refine wpAny_newFunctionEnv_cells H.kind (kindsX (List.all_eq_true.mpr fun x hx => ?_) _) fun env he s₁ x => ?_
  · rcases (argOf x.1 (List.of_mem_zip (a := x.1) (b := x.2) hx).1).2.2 with z | z <;> rw [z] <;> rfl
  have hE : env = callEnvC fd s.heap.objs.size a := he
  clear he
  subst hE
  refine ⟨(G.keeps gk).nolimit.keeps x.toInCall.keep, codeAny_func ?_⟩
  have enter := St.enter (prog := prog) (w := w) (mg := mg) (mb := mb) (K := K) (P := P) (W := W) (ρ := ρ) (o := own.map fun x => (x.1, x.2.2)) H rfl hvl2 G gk F x (fun y d _ hd hlk => enter_var hpe (fun y hy => (argOf y hy).1) rl rdfl y d hd (hρ ▸ hlk)) hW (enter_own hpe (fun y hy => ⟨(argOf y hy).1, (argOf y hy).2.1⟩) hown)
  refine enter.elim fun P₁ S => ?_
  refine hbody _ fd.scope body P₁ s₁ ⟨_, _, _, _, _, rfl, hl, rfl, hbody'⟩ rfl ?_ x.toInCall.same x.toInCall.keep S.1 S.2.1 S.2.2
  rw [hbd]
  unfold fdBody
  rw [hbody']
  exact cB_sound _ _

theorem kept_post {P₁ P' W' : Addr → Prop} {s₁ : Shared} {v : Value} {d : D} (F : FreshIn P s.heap) (hsame : ∃ h t, s₁ = { s with heap := h, toks := t }) (hkeep : ∀ b o, s.heap.get? b = some o → s₁.heap.get? b = some o) (hP₁ : ∀ b, P₁ b → P b) (hWr : ∀ b, Wr env (fun _ => False) b → s.heap.get? b = none)
    (h1 : ∀ b, P' b → P₁ b) (h2 : Step env (fun _ => False) s₁ W' s') (h3 : RelV prog w mg (fun b => P' b ∨ W' b) s'.heap v d) : Post prog w mg P s d v s' := by
  refine hide fun Gg kg => ?_
  obtain ⟨hh, tt, rfl⟩ := hsame
  obtain ⟨hh', tt', rfl⟩ := h2.same
  refine kg ?_; clear kg Gg
  refine ⟨⟨hh', tt', rfl, fun b o e => h2.kept b o (fun z => ns (e.symm.trans (hWr b z))) (hkeep b o e)⟩, h3.mono fun b o p e => ⟨e, p.elim (fun p => hP₁ b (h1 b p)) fun p => (h2.newW b p).elim False.elim fun z => F b ?_⟩⟩
  cases q : s.heap.get? b with
  | none => rfl
  | some o => exact ns ((hkeep b o q).symm.trans z)
/-- a function hands back what its body's form says -/
theorem fn_core (O : Orc2 prog w K mg mb Γ Γm isi kn fo Γk Γu n) {v0 : Value} {fn : Fn} {args : List D} {d : D} (FI : FnIs K v0 fn) (ev : runFn Γ Γm isi kn fo Γk Γu fn args = some d) {vs : List Value} {Q : Value → Shared → Prop}
    (hA : AOK (n + 1) A) (G : Gd K mg mb s.heap) (F : FreshIn P s.heap) (rl : RelL prog w mg P s.heap vs args) (hQ : ∀ v s', Post prog w mg P s d v s' → Q v s') : wpAny (model prog w) A (call v0 vs) Q E s := by
  apply iFs ev; clear ev; intro ρ hρ ev
  refine wpAny_call (fn_call FI (own := none) (W := fun _ => False) (h₀ := s.heap) (nps := fn.ps) hA G (fun _ _ e => e) F rfl rl hρ (fun _ h => h.elim) (fun _ h => h) fun env sc st P₁ s₁ _ _ rep hsame hkeep hP₁ hWr S => ?_)
  apply outFn_inv ev <;> clear ev
  · intro q
    refine wpAny_mono (mainB O rep _ _ _ _ _ _ _ _ _ (hA.deeper env) S q) (fun fl s' x => ?_) fun _ _ x => x.elim
    apply x.eR; clear x; intro P' W' v h1 h2 h3
    exact hQ v s' (kept_post F hsame hkeep hP₁ hWr h1 h2 h3)
  · intro ρ' o' q e
    subst e
    refine wpAny_mono (mainB O rep _ _ _ _ _ _ _ _ _ (hA.deeper env) S q) (fun fl s' x => ?_) fun _ _ x => x.elim
    apply x.eN; clear x; intro P' W' h1 h2 h3
    exact hQ .none s' (kept_post F hsame hkeep hP₁ hWr h1 h2 .none)

theorem fn_callee (O : Orc2 prog w K mg mb Γ Γm isi kn fo Γk Γu n) {f : Nat} {v0 : Value} {fn : Fn} {args : List D} {d : D} (FI : FnIs K v0 fn) (hg : GlobV mg mb (dec f) v0) (ev : runFn Γ Γm isi kn fo Γk Γu fn args = some d) : CalleeOK prog w K mg mb (n + 1) f args d :=
  ⟨v0, hg, FI.keep, fun P A s vs E Q hA G F rl hQ => fn_core O FI ev hA G F rl hQ⟩

theorem own_same {c c' : Nat} {fs fs' : List (Nat × D)} {v0 v : Value} {s s' : Shared} (r : OwnV prog w mg P s.heap v0 (.inst c fs) W) (r' : OwnV prog w mg P' s'.heap v (.inst c' fs') W) (hcls : ∀ b o, W b → s.heap.get? b = some o → ∃ o', s'.heap.get? b = some o' ∧ o'.cls = o.cls) : v = v0 := by
  refine r.eInst (M := fun v0 W => (∀ b o, W b → s.heap.get? b = some o → ∃ o', s'.heap.get? b = some o' ∧ o'.cls = o.cls) → OwnV prog w mg P' s'.heap v (.inst c' fs') W → v = v0) (fun x dx0 C0 _ _ h1 h2 _ _ _ _ _ _ _ _ hcls r' => ?_) hcls r'
  generalize hW : (fun b => b = x ∨ b = dx0) = W1 at r'
  refine r'.eInst (M := fun v W1 => (fun b => b = x ∨ b = dx0) = W1 → v = .ref x) (fun x1 dx1 _ _ _ g1 g2 _ _ _ _ _ _ _ _ hW => ?_) hW
  have e : (x = x ∨ x = dx0) = (x = x1 ∨ x = dx1) := congrFun hW x
  rcases e.mp (.inl rfl) with q | q
  · rw [q]
  · refine (hcls x _ (.inl rfl) h1).elim fun o' H => ?_
    have e2 := Option.some.inj ((q ▸ g2).symm.trans H.1)
    subst e2
    exact nomatch H.2

theorem fn_mutC (O : Orc2 prog w K mg mb Γ Γm isi kn fo Γk Γu n) {c : Nat} {v0 : Value} {fn : Fn} {args : List D} {fs fs' : List (Nat × D)} (FI : FnIs K v0 fn) {v : Value} {vs : List Value} {R : Result → Shared → Prop} (hA : AOK (n + 1) A) (G : Gd K mg mb h₀) (gk : ∀ b o, h₀.get? b = some o → s.heap.get? b = some o)
    (hW : ∀ b, W b → h₀.get? b = none ∧ ¬ P b) (F : FreshIn P s.heap) (ho : OwnV prog w mg P s.heap v (.inst c fs) W) (rl : RelL prog w mg P s.heap vs args) (ev : runMut Γ Γm isi kn fo Γk Γu fn c fs args = some fs')
    (hR : ∀ s', (∃ h t, s' = { s with heap := h, toks := t }) → (∀ b o, ¬ W b → s.heap.get? b = some o → s'.heap.get? b = some o) → (∀ b, (s.heap.get? b).isSome = true → (s'.heap.get? b).isSome = true) → (∀ b o, W b → s.heap.get? b = some o → ∃ o', s'.heap.get? b = some o' ∧ o'.cls = o.cls) → OwnV prog w mg P s'.heap v (.inst c fs') W → R (.ok (.ret .none)) s') :
    codeAny (model prog w) A (.call v0 ⟨v :: vs, []⟩) R s := by
  cases hps : fn.ps with
  | nil => unfold runMut at ev; rw [hps] at ev; exact nn ev
  | cons x ps =>
  unfold runMut at ev; rw [hps] at ev
  apply iFs ev; clear ev; intro ρ hρ ev
  apply iB ev; clear ev; intro _ ev
  refine fn_call FI (own := some (x, v, .inst c fs)) (W := W) (h₀ := h₀) (nps := ps) hA G gk F hps rl hρ (fun b q => ⟨(hW b q).1, (hW b q).2, ho.alive b q⟩) ho fun env sc st P₁ s₁ _ _ rep hsame hkeep hP₁ hWr S => ?_
  apply outMut_inv ev; clear ev; intro ρ' x' q
  refine wpAny_mono (mainB O rep _ _ _ _ _ _ _ _ _ (hA.deeper env) S q) (fun fl s' x => ?_) fun _ _ x => x.elim
  clear S q rep hρ rl FI hps
  apply x.eN; clear x; intro P' W' h1 h2 h3
  have eW : W' = W := h2.ow (ho.eInst (M := fun _ W => ∃ b, W b) fun x _ _ _ _ _ _ _ _ _ _ _ _ _ _ => ⟨x, .inl rfl⟩)
  subst eW
  refine hide fun Gg kg => ?_
  obtain ⟨hh, tt, rfl⟩ := hsame
  obtain ⟨hh', tt', rfl⟩ := h2.same
  obtain ⟨_, v', _, _, _, _, a5, _⟩ := h3.own
  refine kg ?_; clear kg Gg
  clear h3
  have hcls : ∀ b o, W' b → s.heap.get? b = some o → ∃ o', hh'.get? b = some o' ∧ o'.cls = o.cls := fun b o hb e => h2.cls b o hb (hkeep b o e)
  have hv : v' = v := own_same (s' := { s with heap := hh', toks := tt' }) ho a5 hcls
  subst hv
  exact hR _ ⟨hh', tt', rfl⟩ (fun b o nb e => h2.kept b o (fun z => z.elim (fun z => ns (e.symm.trans (hWr b (.inl z)))) fun z => z.elim (fun z => ns (e.symm.trans (hWr b (.inr (.inl z))))) nb) (hkeep b o e)) (fun b e => (Option.isSome_iff_exists.mp e).elim fun o ho => h2.alive b (isSome_of (hkeep b o ho))) hcls (a5.mono (fun b o _ e => e) fun b o p _ => hP₁ b (h1 b p))
/-- a function that turns its first argument's object -/
theorem fn_mut (O : Orc2 prog w K mg mb Γ Γm isi kn fo Γk Γu n) {f c : Nat} {v0 : Value} {fn : Fn} {args : List D} {fs fs' : List (Nat × D)} (FI : FnIs K v0 fn) (hg : GlobV mg mb (dec f) v0) (ev : runMut Γ Γm isi kn fo Γk Γu fn c fs args = some fs') : MutOK prog w K mg mb (n + 1) f c fs args fs' := by
  refine ⟨v0, hg, FI.keep, fun h₀ P W A s v vs E Q hA G gk hW F ho rl hQ => ?_⟩
  refine wpAny_call (codeAny_mono (fn_mutC O FI hA G gk hW F ho rl ev (R := fun r s' => match r with | .ok (.ret v) => Q v s' | .ok _ => False | .error e => E e s') fun s' a b c d e => hQ s' a b c d e) fun r s' x => x)
end
end Mine
end

section
open PySem PySem.W PyProof.Rows PySem.Calls
set_option maxRecDepth 100000
namespace Mine
section
variable {prog : Program} {w : World} {K : Frag} {mg mb : Str → Option Value} {P P' W W' : Addr → Prop} {A : Around} {E : Value → Shared → Prop} {s s' : Shared} {env : Env} {sc : Scope} {h h' h₀ : Heap} {ρ ρ' : List (Nat × D)} {o : Option (Nat × D)}
variable {Γ : Nat → List D → Option D} {Γm : Nat → D → List D → Option D} {isi : D → Nat → Option Bool} {kn : Nat → Bool} {fo : Nat → Nat → Bool} {n : Nat} {Γk : Nat → List D → Option (List (Nat × D))} {Γu : Nat → Nat → List (Nat × D) → List D → Option (List (Nat × D))}

/-- a class whose calls make instances by an __init__ of the text -/
structure ClsIs (K : Frag) (mg : Str → Option Value) (c : Nat) (C : Addr) (fI : Addr) (fn : Fn) : Prop where
  at_ : mg (dec c) = some (.ref C)
  keep : keepIn K (.ref C) = true
  makes : makesIn K C = true
  init : findIn K (.ref C) "__init__" = some (some (.ref fI))
  fty : typeIn K (.ref fI) = some (.type "function")
  fn : FnIs K (.ref fI) fn

theorem AOK.under (hA : AOK (n + 1) A) (C : Addr) (vs : List Value) : AOK n (A.under (.builtin "type.__call__" ⟨.ref C :: vs, []⟩)) := by
  obtain ⟨h1, h2, h3⟩ := hA
  refine ⟨h1, ?_, ?_⟩
  · rw [depth_under_make]; omega
  · rw [units_under_make]; omega

theorem cls_core (O : Orc2 prog w K mg mb Γ Γm isi kn fo Γk Γu n) {c : Nat} {C fI : Addr} {fn : Fn} {args : List D} {fs : List (Nat × D)} (Y : ClsIs K mg c C fI fn) (ev : runMut Γ Γm isi kn fo Γk Γu fn c [] args = some fs) {vs : List Value} {Q : Value → Shared → Prop}
    (hA : AOK (n + 2) A) (G : Gd K mg mb s.heap) (F : FreshIn P s.heap) (rl : RelL prog w mg P s.heap vs args)
    (hQ : ∀ v W s', Keeps s s' → OwnV prog w mg (fun b => P b ∧ ¬ W b) s'.heap v (.inst c fs) W → (∀ b, W b → s.heap.get? b = none) → Q v s') : wpAny (model prog w) A (call (.ref C) vs) Q E s := by
  refine wpAny_call ?_
  obtain ⟨hh, g, d, t, os⟩ := s
  refine make_core (makes_of G.X Y.makes) (looks_findIn G.X Y.init) (fun self => bind_fn G.X self Y.fty) (.inl rfl) ?_
  have hx : ((hh.push emptyDict).push (instObj C hh.objs.size)).get? (hh.objs.size + 1) = some (instObj C hh.objs.size) := by
    have e : (hh.push emptyDict).objs.size = hh.objs.size + 1 := Heap.size_push ..
    rw [← e]; exact Heap.get?_push_size _ rfl
  have hdx : ((hh.push emptyDict).push (instObj C hh.objs.size)).get? hh.objs.size = some emptyDict := Heap.get?_push_of_some _ (Heap.get?_push_size _ rfl)
  have k : ∀ b o, hh.get? b = some o → ((hh.push emptyDict).push (instObj C hh.objs.size)).get? b = some o := fun b o e => Heap.get?_push_of_some _ (Heap.get?_push_of_some _ e)
  have hWn : ∀ b, (b = hh.objs.size + 1 ∨ b = hh.objs.size) → hh.get? b = none := fun b q => by
    cases z : hh.get? b with
    | none => rfl
    | some o =>
      have := Heap.lt_size z
      rcases q with q | q <;> subst q
      · exact absurd this (Nat.not_lt.mpr (Nat.le_succ _))
      · exact absurd this (Nat.lt_irrefl _)
  refine fn_mutC O Y.fn (h₀ := hh) (P := fun b => P b ∧ ¬ (b = hh.objs.size + 1 ∨ b = hh.objs.size)) (W := fun b => b = hh.objs.size + 1 ∨ b = hh.objs.size) (c := c) (fs := []) (hA.under C vs) G k (fun b q => ⟨hWn b q, fun z => z.2 q⟩) (fun b e => ⟨F b ?_, fun q => ?_⟩) ?_ ?_ ev fun s' hsame hkept hal hcls hv => ?_
  · cases z : hh.get? b with
    | none => rfl
    | some o => have := k b o z; dsimp only at e; rw [e] at this; cases this
  · dsimp only at e
    rcases q with q | q
    · subst q; rw [hx] at e; cases e
    · subst q; rw [hdx] at e; cases e
  · exact .inst (es := []) (n := 0) hx hdx (Nat.succ_ne_self _) Y.at_ (fun e he => by cases he) (Nat.le_refl _) .nil (fun p hp => by cases hp) List.nodup_nil (fun b _ _ => by rfl)
  · exact RelL.mono (fun b o p e => ⟨k b o e, p, fun q => by rw [hWn b q] at e; cases e⟩) rl
  · refine ⟨rfl, ?_⟩
    obtain ⟨h', t', rfl⟩ := hsame
    refine hQ _ _ _ ⟨h', t', rfl, fun b o e => hkept b o (fun q => by dsimp only at e; rw [hWn b q] at e; cases e) (k b o e)⟩ hv hWn

theorem cls_mk (O : Orc2 prog w K mg mb Γ Γm isi kn fo Γk Γu n) {c : Nat} {C fI : Addr} {fn : Fn} {args : List D} {fs : List (Nat × D)} (Y : ClsIs K mg c C fI fn) (ev : runMut Γ Γm isi kn fo Γk Γu fn c [] args = some fs) : MkOK prog w K mg mb (n + 2) c args fs :=
  ⟨.ref C, .inl Y.at_, fun h G => keeps_K Y.keep h G.X, fun P A s vs E Q hA G F rl hQ => cls_core O Y ev hA G F rl hQ⟩
theorem cls_callee (O : Orc2 prog w K mg mb Γ Γm isi kn fo Γk Γu n) {c : Nat} {C fI : Addr} {fn : Fn} {args : List D} {fs : List (Nat × D)} (Y : ClsIs K mg c C fI fn) (ev : runMut Γ Γm isi kn fo Γk Γu fn c [] args = some fs) : CalleeOK prog w K mg mb (n + 2) c args (.inst c fs) :=
  ⟨.ref C, .inl Y.at_, fun h G => keeps_K Y.keep h G.X, fun P A s vs E Q hA G F rl hQ => cls_core O Y ev hA G F rl fun v W s' k hv hW => hQ v s' ⟨k, hv.rel.mono fun b o p e => ⟨e, by
    rcases p with p | p
    · exact p.1
    · exact F b (hW b p)⟩⟩⟩
end
end Mine
end

section
open PySem PySem.W PyProof.Rows PySem.Calls
set_option maxRecDepth 100000
namespace Mine
section
variable {prog : Program} {w : World} {K : Frag} {mg mb : Str → Option Value} {P P' W W' : Addr → Prop} {A : Around} {E : Value → Shared → Prop} {s s' : Shared}

/-- what is looked at of an own object's class -/
noncomputable def clsK (K : Frag) (D : Addr) : Bool := plainGet K D "__class__" && hasDictIn K D && (findIn K (.ref D) "__class__" == some (some (.builtin "object.__class__"))) &&
  (specialIn K (.builtin "object.__class__") "__get__" == some (some (.builtin "getset_descriptor.__get__"))) && (takesIn K (.builtin "object.__class__") == some true) && (mroIn K D (.type "object") == some true)
/-- a class of the text as isinstance asks for it -/
noncomputable def clsQ (K : Frag) (C : Addr) : Bool := (clsIn K C).isSome && (typeIn K (.ref C) == some (.type "type")) && (instIn K (.ref C) (.type "type") == some true)

theorem isi_inst_no {x D C : Addr} {ox od : Obj} {Q : Value → Shared → Prop} (X : K.In s.heap) (I : InstAt s.heap x ox D (some od)) (h1 : clsK K D = true) (e : kin_not K D C = true) (h : Q (.bool false) { s with toks := s.toks + 1 }) : wpAny (model prog w) A (call (.builtin "isinstance") [.ref x, .ref C]) Q E s := by
  simp only [clsK, Bool.and_eq_true, beq_iff_eq] at h1
  refine hide fun Gg kg => ?_
  obtain ⟨⟨⟨⟨⟨a1, a2⟩, a3⟩, a4⟩, a5⟩, a6⟩ := h1
  refine kg ?_; clear kg Gg
  exact kin_callC X I e a1 a2 a3 a4 a5 a6 h
theorem isi_inst_noT {x D : Addr} {T : String} {ox od : Obj} {Q : Value → Shared → Prop} (X : K.In s.heap) (I : InstAt s.heap x ox D (some od)) (h1 : clsK K D = true) (e : kin_notT K D T = true) (hty : typeOf (.type T) = pure (.type "type")) (h : Q (.bool false) { s with toks := s.toks + 1 }) : wpAny (model prog w) A (call (.builtin "isinstance") [.ref x, .type T]) Q E s := by
  simp only [clsK, Bool.and_eq_true, beq_iff_eq] at h1
  refine hide fun Gg kg => ?_
  obtain ⟨⟨⟨⟨⟨a1, a2⟩, a3⟩, a4⟩, a5⟩, a6⟩ := h1
  refine kg ?_; clear kg Gg
  exact kin_callT X I e hty a1 a2 a3 a4 a5 a6 h
theorem isi_inst_yes {x C : Addr} {ox od : Obj} {Q : Value → Shared → Prop} (X : K.In s.heap) (I : InstAt s.heap x ox C (some od)) (h : Q (.bool true) s) : wpAny (model prog w) A (call (.builtin "isinstance") [.ref x, .ref C]) Q E s :=
  isi_call X (fun _ => I.type) (by unfold isIn; simp) (by intro q; cases q) h

/-- plain values are no instances of a class of the text -/
theorem isi_plain {v : Value} {T : String} {C : Addr} {Q : Value → Shared → Prop} (X : K.In s.heap) (h0 : ∀ M h, Looks M h (typeOf v) (.type T)) (hc : ∀ (prog : Program) (w : World) (A : Around) (Q : Option Value → Shared → Prop) (E : Value → Shared → Prop) (s : Shared), Q (some (.type T)) { s with toks := s.toks + 1 } → wpAny (model prog w) A (getAttr? v "__class__") Q E s)
    (hq : clsQ K C = true) (hsub : subIn K (.type T) (.ref C) = some false) (hx : v ≠ .builtin "__main__.__loader__#opaque") (h : Q (.bool false) { s with toks := s.toks + 1 }) : wpAny (model prog w) A (call (.builtin "isinstance") [v, .ref C]) Q E s :=
  isn_call (P := fun _ => True) X (fun M => h0 M _) (show (clsQ K C && (subIn K (.type T) (.ref C) == some false)) = true by rw [hq, hsub]; rfl) hx trivial (fun _ q => hc _ _ _ _ _ _ q) h

/-- isinstance asked of data: a class of the text by its number (Q: asked), or a built-in one -/
noncomputable def isiC (isCls : Nat → Bool) (c : Nat) (x : D) : Option Bool := match x with
  | .none => some false
  | .bool _ => some false
  | .int _ => some false
  | .str _ => some false
  | .inst d _ => if isCls d then some (Nat.beq d c) else none
  | _ => none
noncomputable def isiP (isCls : Nat → Bool) (vb vi vs : Bool) (x : D) : Option Bool := match x with
  | .bool _ => some vb
  | .int _ => some vi
  | .str _ => some vs
  | .inst d _ => if isCls d then some false else none
  | _ => none
noncomputable def isiD (isCls : Nat → Bool) (x : D) (c : Nat) : Option Bool := if isCls c then isiC isCls c x else if Nat.beq c 1651470188 then isiP isCls true false false x else if Nat.beq c 6909556 then isiP isCls true true false x else if Nat.beq c 7566450 then isiP isCls false false true x else none

/-- what isinstance needs to know of the classes -/
structure IsiK (K : Frag) (mg mb : Str → Option Value) (isCls : Nat → Bool) : Prop where
  at_ : ∀ c, isCls c = true → ∃ C, mg (dec c) = some (.ref C) ∧ clsK K C = true ∧ clsQ K C = true ∧ (∀ T ∈ (["NoneType", "bool", "int", "str"] : List String), subIn K (.type T) (.ref C) = some false) ∧ (∀ T ∈ (["bool", "int", "str"] : List String), kin_notT K C T = true)
  two : ∀ c d C E, isCls c = true → isCls d = true → Nat.beq c d = false → mg (dec c) = some (.ref C) → mg (dec d) = some (.ref E) → kin_not K C E = true
  tb : GlobV mg mb (dec 1651470188) (.type "bool")
  ti : GlobV mg mb (dec 6909556) (.type "int")
  ts : GlobV mg mb (dec 7566450) (.type "str")

theorem isi_c {isCls : Nat → Bool} (Y : IsiK K mg mb isCls) {x : D} {c : Nat} {b : Bool} (hc : isCls c = true) (e : isiC isCls c x = some b) : IsiOK prog w K mg mb x c b := by
  refine (Y.at_ c hc).elim fun C H => ?_
  refine ⟨.ref C, .inl H.1, fun P A s v E Q G r hQ => ?_⟩
  have X := G.X
  have hC := H.1
  have H := H.2
  cases x with
  | none => apply RelV.eNone r; exact isi_plain X (fun _ _ => Looks.of_pure rfl) (fun _ _ _ _ _ _ h => class_attr_none h) H.2.1 (H.2.2.1 "NoneType" (.head _)) (fun q => nomatch q) (Option.some.inj e ▸ hQ _ (kTk _ _))
  | bool => apply RelV.eBool r; exact isi_plain X (fun _ _ => Looks.of_pure rfl) (fun _ _ _ _ _ _ h => class_attr_bool h) H.2.1 (H.2.2.1 "bool" (.tail _ (.head _))) (fun q => nomatch q) (Option.some.inj e ▸ hQ _ (kTk _ _))
  | int => apply RelV.eInt r; intro _; exact isi_plain X (fun _ _ => Looks.of_pure rfl) (fun _ _ _ _ _ _ h => class_attr_int h) H.2.1 (H.2.2.1 "int" (.tail _ (.tail _ (.head _)))) (fun q => nomatch q) (Option.some.inj e ▸ hQ _ (kTk _ _))
  | str => apply RelV.eStr r; intro _; exact isi_plain X (fun _ _ => Looks.of_pure rfl) (fun _ _ _ _ _ _ h => class_attr_str h) H.2.1 (H.2.2.1 "str" (.tail _ (.tail _ (.tail _ (.head _))))) (fun q => nomatch q) (Option.some.inj e ▸ hQ _ (kTk _ _))
  | inst d fs =>
    apply iB e; clear e; intro hd e
    have e := Option.some.inj e; subst e
    apply RelV.eInst r; clear r; intro _ D _ _ _ _ _ _ h4 I _ _
    cases hb : Nat.beq d c with
    | true =>
      have z := Nat.eq_of_beq_eq_true hb
      have e := Value.ref.inj (Option.some.inj (h4.symm.trans (z ▸ hC)))
      subst e
      exact isi_inst_yes X I (hb ▸ hQ _ (kRfl _))
    | false => exact isi_inst_no X I ((Y.at_ d hd).elim fun D1 H => Value.ref.inj (Option.some.inj (h4.symm.trans H.1)) ▸ H.2.1) (Y.two d c _ _ hd hc hb h4 hC) (hb ▸ hQ _ (kTk _ _))
  | _ => exact nn e
theorem isi_T {isCls : Nat → Bool} (Y : IsiK K mg mb isCls) {T : String} {x : D} {c : Nat} {vb vi vs b : Bool} (hg : GlobV mg mb (dec c) (.type T)) (hT : T ∈ (["bool", "int", "str"] : List String)) (hty : typeOf (.type T) = pure (.type "type"))
    (hb : ∀ (A : Around) (s : Shared) (b : Bool) (E Q : Value → Shared → Prop), (∀ s', Keeps s s' → Q (.bool vb) s') → wpAny (model prog w) A (call (.builtin "isinstance") [.bool b, .type T]) Q E s)
    (hi : ∀ (A : Around) (s : Shared) (b : Int) (t : Tok) (E Q : Value → Shared → Prop), (∀ s', Keeps s s' → Q (.bool vi) s') → wpAny (model prog w) A (call (.builtin "isinstance") [.int b t, .type T]) Q E s)
    (hs : ∀ (A : Around) (s : Shared) (b : Str) (t : Tok) (E Q : Value → Shared → Prop), (∀ s', Keeps s s' → Q (.bool vs) s') → wpAny (model prog w) A (call (.builtin "isinstance") [.str b t, .type T]) Q E s)
    (e : isiP isCls vb vi vs x = some b) : IsiOK prog w K mg mb x c b := by
  refine ⟨.type T, hg, fun P A s v E Q G r hQ => ?_⟩
  cases x with
  | bool => apply RelV.eBool r; exact hb _ _ _ _ _ (Option.some.inj e ▸ hQ)
  | int => apply RelV.eInt r; intro _; exact hi _ _ _ _ _ _ (Option.some.inj e ▸ hQ)
  | str => apply RelV.eStr r; intro _; exact hs _ _ _ _ _ _ (Option.some.inj e ▸ hQ)
  | inst d fs =>
    apply iB e; clear e; intro hd e
    have e := Option.some.inj e; subst e
    refine (Y.at_ d hd).elim fun D1 H => ?_
    apply RelV.eInst r; clear r; intro _ D _ _ _ _ _ _ h4 I _ _
    have e := Value.ref.inj (Option.some.inj (h4.symm.trans H.1))
    subst e
    exact isi_inst_noT G.X I H.2.1 (H.2.2.2.2 T hT) hty (hQ _ (kTk _ _))
  | _ => exact nn e
theorem isi_ok {isCls : Nat → Bool} (Y : IsiK K mg mb isCls) {x : D} {c : Nat} {b : Bool} (e : isiD isCls x c = some b) : IsiOK prog w K mg mb x c b := by
  apply iE e <;> clear e
  · exact fun hc e => isi_c Y hc e
  intro _ e; apply iE e <;> clear e
  · intro h e; have h := Nat.eq_of_beq_eq_true h; subst h
    exact isi_T Y Y.tb (.head _) rfl (fun _ _ _ _ _ hQ => IsiPair.bool_bool (hQ _ (kRfl _))) (fun _ _ _ _ _ _ hQ => IsiPair.int_bool (hQ _ (kTk _ _))) (fun _ _ _ _ _ _ hQ => IsiPair.str_bool (hQ _ (kTk _ _))) e
  intro _ e; apply iE e <;> clear e
  · intro h e; have h := Nat.eq_of_beq_eq_true h; subst h
    exact isi_T Y Y.ti (.tail _ (.head _)) rfl (fun _ _ _ _ _ hQ => IsiPair.bool_int (hQ _ (kRfl _))) (fun _ _ _ _ _ _ hQ => IsiPair.int_int (hQ _ (kRfl _))) (fun _ _ _ _ _ _ hQ => IsiPair.str_int (hQ _ (kTk _ _))) e
  intro _ e; apply iB e; clear e
  intro h e; have h := Nat.eq_of_beq_eq_true h; subst h
  exact isi_T Y Y.ts (.tail _ (.tail _ (.head _))) rfl (fun _ _ _ _ _ hQ => IsiPair.bool_str (hQ _ (kTk _ _))) (fun _ _ _ _ _ _ hQ => IsiPair.int_str (hQ _ (kTk _ _))) (fun _ _ _ _ _ _ hQ => IsiPair.str_str (hQ _ (kRfl _))) e
end
end Mine
end

section
open PySem PySem.W PyProof.Rows PySem.Calls
set_option maxRecDepth 100000
namespace Mine

noncomputable def strsD : List D → Option (List Str)
  | [] => some []
  | .str s :: r => (strsD r).map (s :: ·)
  | _ => none
noncomputable def intsD : List D → Option (List Int)
  | [] => some []
  | .int i :: r => (intsD r).map (i :: ·)
  | _ => none
noncomputable def boolsD : List D → Option (List Bool)
  | [] => some []
  | .bool b :: r => (boolsD r).map (b :: ·)
  | _ => none
/-- a glued text, its length held -/
noncomputable def joinD (sep : Str) (l : List D) : Option D := match strsD l with
  | some ys => if Nat.ble ((ys.map (·.length)).sum + ys.length * sep.length) 100000 then some (.str (Txt.join sep ys)) else none
  | none => none
noncomputable def lowD (s : Str) : Option D :=
  if s == ⟨#[80, 48]⟩ then some (.str ⟨#[112, 48]⟩) else if s == ⟨#[80, 49]⟩ then some (.str ⟨#[112, 49]⟩)
  else if s == ⟨#[79, 116, 104, 101, 114]⟩ then some (.str ⟨#[111, 116, 104, 101, 114]⟩) else none
noncomputable def idx3 (a b c x : Str) : Option Int := if a == x then some 0 else if b == x then some 1 else if c == x then some 2 else none
noncomputable def idxD (x : Str) (l : List D) : Option D := match strsD l with
  | some l => match l with
    | [] => none
    | a :: r => match r with
      | [] => none
      | b :: r => match r with
        | [] => none
        | c :: r => match r with
          | [] => (idx3 a b c x).map .int
          | _ :: _ => none
  | none => none
/-- built-in methods -/
noncomputable def methP (m : Nat) (x : D) (ds : List D) : Option D := match x, ds with
  | .str s, [] => if Nat.beq m 465726563698 then lowD s else none
  | .str s, [.lst l] => if Nat.beq m 1785686382 then joinD s l else none
  | .str s, [.tup l] => if Nat.beq m 1785686382 then joinD s l else none
  | .tup l, [.str s] => if Nat.beq m 452823639416 then idxD s l else none
  | .dct es, [.str k] => if Nat.beq m 6776180 then (match es.lookup k with
    | some d => some d
    | none => some .none) else none
  | _, _ => none
noncomputable def lenD : D → Option D
  | .tup l => if Nat.ble l.length 10000000 then some (.int l.length) else none
  | .lst l => if Nat.ble l.length 10000000 then some (.int l.length) else none
  | .str s => if Nat.ble s.length 10000000 then some (.int s.length) else none
  | _ => none
noncomputable def strD (i : Int) : Option D := if i = 1 then some (.str ⟨#[49]⟩) else if i = -5 then some (.str ⟨#[45, 53]⟩) else none
/-- built-in functions and types -/
noncomputable def maxD (f : Nat) (x y : D) : Option D := match x with
  | .int a => match y with
    | .int b => if Nat.beq f 7168376 then some (.int (if b > a then b else a)) else none
    | _ => none
  | _ => none
noncomputable def prim1 (f : Nat) (x : D) : Option D := if Nat.beq f 7103854 then lenD x
    else if Nat.beq f 491260897125 then (match x with
      | .int (.ofNat n) => some (.rng n)
      | _ => none)
    else if Nat.beq f 7566450 then (match x with
      | .int i => strD i
      | _ => none)
    else if Nat.beq f 500186508389 then (match x with
      | .lst l => if Nat.ble l.length 1000 then some (.tup l) else none
      | _ => none)
    else if Nat.beq f 6384748 then (match x with
      | .lst l => (boolsD l).map fun bs => .bool (bs.all id)
      | _ => none)
    else if Nat.beq f 7566701 then (match x with
      | .lst l => (intsD l).map fun is => .int is.sum
      | _ => none)
    else if Nat.beq f 6514802 then (match x with
      | .int i => if (decide (i < 0) || decide (i > 0x10FFFF)) then none else some (.str ⟨#[i.toNat]⟩)
      | _ => none)
    else if Nat.beq f 7303780 then (match x with
      | .str s => (match s.cps.toList with
        | [c] => some (.int c)
        | _ => none)
      | _ => none)
    else none
noncomputable def primP (f : Nat) (ds : List D) : Option D := match ds with
  | [] => none
  | x :: r => match r with
    | [] => prim1 f x
    | y :: r' => match r' with
      | [] => maxD f x y
      | _ :: _ => none

section
variable {prog : Program} {w : World} {K : Frag} {mg mb : Str → Option Value} {P P' W W' : Addr → Prop} {A : Around} {E : Value → Shared → Prop} {s s' : Shared} {n : Nat}

theorem strs_rel {l : List D} {vs : List Value} {ys : List Str} {h : Heap} (r : RelL prog w mg P h vs l) (e : strsD l = some ys) : StrsAre vs ys := by
  induction l generalizing vs ys with
  | nil => apply RelL.eNil r; exact Option.some.inj e ▸ .nil
  | cons d l ih =>
    apply RelL.eCons r
    intro v vs a b
    cases d with
    | str i =>
      apply RelV.eStr a
      intro t
      apply iM (show (strsD l).map (i :: ·) = some ys from e)
      intro x hx q
      exact q ▸ .cons _ _ (ih b hx)
    | _ => exact nn e
theorem ints_rel {l : List D} {vs : List Value} {ys : List Int} {h : Heap} (r : RelL prog w mg P h vs l) (e : intsD l = some ys) : IntsAre vs ys := by
  induction l generalizing vs ys with
  | nil => apply RelL.eNil r; exact Option.some.inj e ▸ .nil
  | cons d l ih =>
    apply RelL.eCons r
    intro v vs a b
    cases d with
    | int i =>
      apply RelV.eInt a
      intro t
      apply iM (show (intsD l).map (i :: ·) = some ys from e)
      intro x hx q
      exact q ▸ .cons _ _ (ih b hx)
    | _ => exact nn e
theorem bools_get {l : List D} {bs : List Bool} (e : boolsD l = some bs) : l = bs.map .bool := by
  induction l generalizing bs with
  | nil => exact Option.some.inj e ▸ rfl
  | cons d l ih =>
    cases d with
    | bool b =>
      apply iM (show (boolsD l).map (b :: ·) = some bs from e)
      intro x hx q
      exact q ▸ congrArg (.bool b :: ·) (ih hx)
    | _ => exact nn e

/-- a built-in method's call -/
theorem meth_builtin {m : Nat} {x d : D} {ds : List D} {id : String} (hg : ∀ (M : Model) (A : Around) (E : Value → Shared → Prop) (s : Shared) (v : Value) (pl : Sem Bool) (Q : Value × List Value → Shared → Prop) (P : Addr → Prop), RelV prog w mg P s.heap v x → Q (.builtin id, [v]) s → wpAny M A (getMethod v (dec m) pl) Q E s)
    (hc : ∀ (P : Addr → Prop) (A : Around) (s : Shared) (v : Value) (vs : List Value) (E Q : Value → Shared → Prop), A.handled = none → FreshIn P s.heap → RelV prog w mg P s.heap v x → RelL prog w mg P s.heap vs ds → (∀ v s', Post prog w mg P s d v s' → Q v s') → wpAny (model prog w) A (call (.builtin id) (v :: vs)) Q E s) :
    MethOK prog w K mg mb n m x ds d := by
  intro P A s ov env o apos pos args E Q hA G F r hline hlen hstar hargn hargs hQ
  refine s_methodCall hline hlen (hstar pos) fun pl => ?_
  refine hg _ _ _ _ _ _ _ P r ?_
  refine Calls.callWith_builtin (hstar pos) (hargs pos s _ _ (kRfl s) fun vs s₁ k rl => ?_)
  exact hc P A s₁ ov vs E Q hA.1 (F.keeps (kp k)) (r.keeps k) rl fun v s' p => hQ v s' ⟨kTr k p.1, p.2⟩

theorem meth_join {s0 : Str} {l : List D} {d : D} (e : joinD s0 l = some d) {x : D} (hx : x = .lst l ∨ x = .tup l) : MethOK prog w K mg mb n 1785686382 (.str s0) [x] d := by
  apply iSs e; clear e; intro ys hy e
  apply iB e; clear e; intro hl e
  have e := Option.some.inj e; subst e
  have hl := Nat.le_of_ble_eq_true hl
  refine meth_builtin (id := "str.join") (fun M A E s v pl Q P r h => ?_) fun P A s v vs E Q hh F r rl hQ => ?_
  · (apply RelV.qStr r; clear r; intro _ qq_; subst qq_)
    exact GM.join h
  · (apply RelV.eStr r; clear r; intro _)
    apply RelL.eCons rl; clear rl; intro _ _ ra rl
    apply RelL.eNil rl; clear rl
    rcases hx with hx | hx <;> subst hx
    · apply RelV.eLst ra; clear ra; intro _ _ hp ht rv
      exact join_list ht (strs_rel rv hy) (Nat.le_trans hl (by decide)) fun t' k => hQ _ _ ⟨kTk s _, .str _ _⟩
    · apply RelV.eTup ra; clear ra; intro _ _ hp ht rv nd
      exact join_tuple ht (strs_rel rv hy) (Nat.le_trans hl (by decide)) fun t' k => hQ _ _ ⟨kTk s _, .str _ _⟩
theorem low_eq {s : Str} {d : D} (e : lowD s = some d) : d = .str (Txt.lower s) ∧ s.length ≤ 100 := by
  apply iE e <;> clear e
  · intro h e; rw [beq_iff_eq.mp h]; exact ⟨(Option.some.inj e).symm.trans (congrArg D.str (by decide +kernel)), by decide⟩
  intro _ e; apply iE e <;> clear e
  · intro h e; rw [beq_iff_eq.mp h]; exact ⟨(Option.some.inj e).symm.trans (congrArg D.str (by decide +kernel)), by decide⟩
  intro _ e; apply iB e; clear e
  intro h e; rw [beq_iff_eq.mp h]; exact ⟨(Option.some.inj e).symm.trans (congrArg D.str (by decide +kernel)), by decide⟩
theorem meth_lower {s0 : Str} {d : D} (e : lowD s0 = some d) : MethOK prog w K mg mb n 465726563698 (.str s0) [] d := by
  obtain ⟨rfl, hl⟩ := low_eq e
  refine meth_builtin (id := "str.lower") (fun M A E s v pl Q P r h => ?_) fun P A s v vs E Q hh F r rl hQ => ?_
  · (apply RelV.qStr r; clear r; intro _ qq_; subst qq_)
    exact GM.lower h
  · (apply RelV.eStr r; clear r; intro _)
    apply RelL.eNil rl; clear rl
    exact SCL.lower (by omega) fun _ => hQ _ _ ⟨kTk s _, .str _ _⟩
theorem meth_get {es : List (Str × D)} {k : Str} {d : D} (e : (match es.lookup k with | some d => some d | none => some .none) = some d) : MethOK prog w K mg mb n 6776180 (.dct es) [.str k] d := by
  refine meth_builtin (id := "dict.get") (fun M A E s v pl Q P r h => ?_) fun P A s v vs E Q hh F r rl hQ => ?_
  · apply RelV.qDct r; clear r; intro _ _ qq_ hp hs hd he; subst qq_
    exact getMethod_builtin hd.typeIs PySem.F.plainAttrs_dict PySem.F.slot_dict_get PySem.F.type_dict_get hd.mapOf.noDict h
  · apply RelV.eDct r; clear r; intro _ _ hp hs hd he
    · apply RelL.eCons rl; clear rl; intro _ _ ra rl
      apply RelL.eNil rl; clear rl
      apply RelV.qStr ra; clear ra; intro t qq_; subst qq_
      refine call_meetsIn PySem.F.slot_dict_get hd.typeIs PySem.F.entry_dict_get (PySem.F.args_dict_get_2 _ _) (meets_dict_get (PySem.strKind prog w) _ (k := k) (by simp [PySem.strKind, Value.isStrOf]) hs) ⟨_, hd.mapOf, ?_⟩
      cases hn : es.lookup k with
      | some d' =>
        rw [hn] at e
        have e := Option.some.inj e; subst e
        refine (he.get hn).elim fun u H => ?_
        rw [H.1]
        exact hQ _ _ ⟨kTk s _, H.2.keeps (kTk s _)⟩
      | none =>
        rw [hn] at e
        have e := Option.some.inj e; subst e
        rw [he.get_none hn]
        exact hQ _ _ ⟨kTk s _, .none⟩
theorem eq_deq (y z : Str) : decide (y = z) = (y == z) := by by_cases q : y = z <;> simp [q]
theorem wpAny_eqS {α : Type} {y x : Str} {t u : Tok} {F : Bool → Sem α} {Q : α → Shared → Prop} (k1 : (y == x) = true → wpAny (model prog w) A (F true) Q E s) (k2 : (y == x) = false → wpAny (model prog w) A (F false) Q E s) : wpAny (model prog w) A (eqBool (.str y t) (.str x u) >>= F) Q E s := by
  refine wpAny_bind (wpAny_eqBool_str ?_)
  rw [eq_deq]
  cases q : y == x
  · exact k2 q
  · exact k1 q
theorem tuple_index3 (l : Addr) (a b c x : Str) (ta tb tc u : Tok) (k : Int) (hk : idx3 a b c x = some k) :
    Meets (Builtin.«tuple.index» ⟨[.ref l, .str x u], []⟩)
      (fun A R s => IsTup s.heap l #[.str a ta, .str b tb, .str c tc] ∧ ∀ tk tk', R (.ok (.ret (.int k tk))) { s with toks := tk' }) :=
  .of_wp fun prog w A R s h => by
    cases s with | mk hp g d tk os => ?_
    refine h.1.elim fun o H => ?_
    have h := h.2
    cases o with | mk cls dd data sl => ?_
    refine H.2.2.elim fun n hd => ?_
    have hl := H.1
    have hc := H.2.1
    dsimp only at hc hd
    clear H
    subst hc hd
    unfold Builtin.«tuple.index»
    simp only [Std.Legacy.Range.forIn_eq_forIn_range']
    wp_walk using wpAny_loadPart' hl
    clear hl
    generalize hL : List.range' 0 _ = L
    have hL' : L = [0, 1, 2] := by rw [← hL]; simp [Std.Legacy.Range.size, List.range']
    clear hL
    subst hL'
    unfold idx3 at hk
    refine wpAny_bind ?_
    refine wpAny_eqS (y := a) (t := ta) (x := x) (u := u) (fun q => ?_) fun q => ?_
    · have := Option.some.inj ((if_pos q).symm.trans hk); subst this
      clear hk
      wp_walk
      exact ⟨_, rfl, h _ _⟩
    replace hk := (if_neg (Bool.eq_false_iff.mp q)).symm.trans hk
    refine wpAny_pure (wpAny_bind ?_)
    refine wpAny_eqS (y := b) (t := tb) (x := x) (u := u) (fun q => ?_) fun q => ?_
    · have := Option.some.inj ((if_pos q).symm.trans hk); subst this
      clear hk
      wp_walk
      exact ⟨_, rfl, h _ _⟩
    replace hk := (if_neg (Bool.eq_false_iff.mp q)).symm.trans hk
    refine wpAny_pure (wpAny_bind ?_)
    refine wpAny_eqS (y := c) (t := tc) (x := x) (u := u) (fun q => ?_) fun q => ?_
    · have := Option.some.inj ((if_pos q).symm.trans hk); subst this
      clear hk
      wp_walk
      exact ⟨_, rfl, h _ _⟩
    · exact nn ((if_neg (Bool.eq_false_iff.mp q)).symm.trans hk)
theorem idx_inv {x : Str} {l : List D} {d : D} {G : Prop} (e : idxD x l = some d) (k : ∀ a b c i, strsD l = some [a, b, c] → D.int i = d → idx3 a b c x = some i → G) : G := by
  apply iSs e; clear e; intro ys hy e
  cases ys with
  | nil => exact nn e
  | cons a ys =>
  cases ys with
  | nil => exact nn e
  | cons b ys =>
  cases ys with
  | nil => exact nn e
  | cons c ys =>
  cases ys with
  | cons _ _ => exact nn e
  | nil => exact iM e fun i hi q => k a b c i hy q hi
theorem strs3 {a b c : Str} {vs : List Value} {M : List Value → Prop} (h : StrsAre vs [a, b, c]) (k : ∀ t u v, M [.str a t, .str b u, .str c v]) : M vs := by
  cases h with | cons _ t h => ?_
  cases h with | cons _ u h => ?_
  cases h with | cons _ v h => ?_
  cases h
  exact k t u v
theorem meth_index {x : Str} {l : List D} {d : D} (e : idxD x l = some d) : MethOK prog w K mg mb n 452823639416 (.tup l) [.str x] d := by
  apply idx_inv e; clear e; intro a b c k hy q e0
  subst q
  refine meth_builtin (id := "tuple.index") (fun M A E s v pl Q P r h => ?_) fun P A s v vs E Q hh F r rl hQ => ?_
  · apply RelV.qTup r; clear r; intro _ _ qq_ hp ht rv nd; subst qq_
    exact getMethod_builtin ht.typeIs PySem.F.plainAttrs_tuple PySem.F.slot_tuple_index PySem.F.type_tuple_index (fun b q => by have := Value.ref.inj q; subst this; exact ht.elim fun o H => ⟨o, H.1, nd o H.1⟩) h
  · apply RelL.eCons rl; clear rl; intro _ _ rx rl
    apply RelL.eNil rl; clear rl
    apply RelV.eStr rx; clear rx; intro u
    apply RelV.eTup r; clear r; intro _ vs hp ht rv nd
    have hv := strs_rel rv hy
    clear rv
    refine strs3 (M := fun vs => IsTup s.heap _ vs.toArray → _) hv (fun ta tb tc ht => ?_) ht
    exact call_meets PySem.F.slot_tuple_index ht.typeIs PySem.F.entry_tuple_index (PySem.F.args_tuple_index_2 _ _) (tuple_index3 _ a b c x _ _ _ u k e0) ⟨ht, fun tk tk' => hQ _ _ ⟨kTk s _, .int _ _⟩⟩
end
end Mine
end

section
open PySem PySem.W PyProof.Rows PySem.Calls
set_option maxRecDepth 100000
namespace Mine
section
variable {prog : Program} {w : World} {K : Frag} {mg mb : Str → Option Value} {P P' W W' : Addr → Prop} {A : Around} {E : Value → Shared → Prop} {s s' : Shared} {n : Nat}

theorem callee_of {f : Nat} {ds : List D} {d : D} {v0 : Value} (hr : ∀ a, v0 ≠ .ref a) (hg : GlobV mg mb (dec f) v0)
    (hc : ∀ (P : Addr → Prop) (A : Around) (s : Shared) (vs : List Value) (E Q : Value → Shared → Prop), A.handled = none → FreshIn P s.heap → RelL prog w mg P s.heap vs ds → (∀ v s', Post prog w mg P s d v s' → Q v s') → wpAny (model prog w) A (call v0 vs) Q E s) :
    CalleeOK prog w K mg mb n f ds d := by
  refine ⟨v0, hg, fun h G => ⟨.machine, .inr (.inl rfl), Looks.of_pure ?_⟩, fun P A s vs E Q hA G F rl hQ => hc P A s vs E Q hA.1 F rl hQ⟩
  cases v0 <;> first | rfl | exact absurd rfl (hr _)

/-- the built-in names -/
structure PrimK (mg mb : Str → Option Value) : Prop where
  len : GlobV mg mb (dec 7103854) (.builtin "len")
  range : GlobV mg mb (dec 491260897125) (.type "range")
  str : GlobV mg mb (dec 7566450) (.type "str")
  tuple : GlobV mg mb (dec 500186508389) (.type "tuple")
  all : GlobV mg mb (dec 6384748) (.builtin "all")
  sum : GlobV mg mb (dec 7566701) (.builtin "sum")
  chr : GlobV mg mb (dec 6514802) (.builtin "chr")
  ord : GlobV mg mb (dec 7303780) (.builtin "ord")
  max : GlobV mg mb (dec 7168376) (.builtin "max")

theorem RelL.eOne {P : Addr → Prop} {h : Heap} {vs : List Value} {a : D} {ML : List Value → Prop} (r : RelL prog w mg P h vs [a]) (k : ∀ u, RelV prog w mg P h u a → ML [u]) : ML vs := by
  apply RelL.eCons r
  intro u _ ra r
  apply RelL.eNil r
  exact k u ra

theorem len_ok {n : Nat} (h : Nat.ble n 10000000 = true) : (n : Int) < 2 ^ 63 := by have := Nat.le_of_ble_eq_true h; omega
theorem p_len (Y : PrimK mg mb) {x d : D} (e : lenD x = some d) : CalleeOK prog w K mg mb n 7103854 [x] d := by
  refine callee_of (fun _ q => by cases q) Y.len fun P A s vs E Q hh F rl hQ => ?_
  apply RelL.eOne rl; clear rl; intro u r
  cases x with
  | tup l =>
    apply iB e; clear e; intro hl e
    have e := Option.some.inj e; subst e
    apply RelV.eTup r; clear r; intro a vs hp ht rv nd
    have hv : vs.toArray.size = l.length := rv.length
    exact len_tuple ht (hv ▸ (len_ok hl)) (hv ▸ hQ _ _ ⟨kTk s _, .int _ _⟩)
  | lst l =>
    apply iB e; clear e; intro hl e
    have e := Option.some.inj e; subst e
    apply RelV.eLst r; clear r; intro a vs hp ht rv
    have hv : vs.toArray.size = l.length := rv.length
    exact Calls.call_len_list ht (hv ▸ (len_ok hl)) (hv ▸ hQ _ _ ⟨kTk s _, .int _ _⟩)
  | str x =>
    apply iB e; clear e; intro hl e
    have e := Option.some.inj e; subst e
    apply RelV.eStr r; clear r; intro t
    exact PySem.P.len_str (Int.not_le.mpr (len_ok hl)) (hQ _ _ ⟨kTk s _, .int _ _⟩)
  | _ => exact nn e
theorem p_range (Y : PrimK mg mb) {m : Nat} : CalleeOK prog w K mg mb n 491260897125 [.int (.ofNat m)] (.rng m) := by
  refine callee_of (fun _ q => by cases q) Y.range fun P A s vs E Q hh F rl hQ => ?_
  apply RelL.eOne rl; clear rl; intro u r
  (apply RelV.eInt r; clear r; intro _)
  exact call_range_1 (hQ _ _ ⟨kPush s _ _, .rng F.size (IsRange.new ..)⟩)
theorem p_str (Y : PrimK mg mb) {i : Int} {d : D} (e : strD i = some d) : CalleeOK prog w K mg mb n 7566450 [.int i] d := by
  refine callee_of (fun _ q => by cases q) Y.str fun P A s vs E Q hh F rl hQ => ?_
  apply RelL.eOne rl; clear rl; intro u r
  (apply RelV.eInt r; clear r; intro _)
  unfold strD at e
  split at e
  · rename_i h
    cases e; subst h
    refine PySem.P.str_of_int (by decide) ?_
    rw [show (Str.ofString (toString (1 : Int))) = ⟨#[49]⟩ from by decide +kernel]
    exact hQ _ _ ⟨kTk s _, .str _ _⟩
  · apply iB e; clear e; intro h e
    cases e; subst h
    refine PySem.P.str_of_int (by decide) ?_
    rw [show (Str.ofString (toString (-5 : Int))) = ⟨#[45, 53]⟩ from by decide +kernel]
    exact hQ _ _ ⟨kTk s _, .str _ _⟩
theorem p_tuple (Y : PrimK mg mb) {l : List D} (hl : l.length ≤ 1000) : CalleeOK prog w K mg mb n 500186508389 [.lst l] (.tup l) := by
  refine callee_of (fun _ q => by cases q) Y.tuple fun P A s vs E Q hh F rl hQ => ?_
  apply RelL.eOne rl; clear rl; intro u r
  apply RelV.eLst r; clear r; intro _ _ hp ht rv
  rename_i a vs
  refine call_tuple_list ht (fun h' hk => ?_) (by rw [List.size_toArray, rv.length, sizeLine_eq]; omega)
  have k1 : Keeps s { s with heap := h' } := ⟨h', s.toks, rfl, hk⟩
  have p := newTup (s := { s with heap := h' }) (F.keeps hk) (rv.keeps k1) s.toks
  exact hQ _ _ ⟨kTr k1 p.1, p.2⟩
theorem all_get (bs : List Bool) : (List.range (bs.map D.bool).length).all (fun i => (bs[i]?).getD false) = bs.all id := by
  rw [List.length_map, Bool.eq_iff_iff, List.all_eq_true, List.all_eq_true]
  constructor
  · intro h b hb
    obtain ⟨i, hi, rfl⟩ := List.getElem_of_mem hb
    have := h i (List.mem_range.mpr hi)
    simpa [hi] using this
  · intro h i hi
    have hi := List.mem_range.mp hi
    have := h bs[i] (List.getElem_mem hi)
    simpa [hi] using this
theorem p_all (Y : PrimK mg mb) {l : List D} {bs : List Bool} (e : boolsD l = some bs) : CalleeOK prog w K mg mb n 6384748 [.lst l] (.bool (bs.all id)) := by
  have hb := bools_get e
  clear e
  subst hb
  refine callee_of (fun _ q => by cases q) Y.all fun P A s vs E Q hh F rl hQ => ?_
  apply RelL.eOne rl; clear rl; intro u r
  refine call_all_walk (src_iter (A := A.in1) (src := .lst (bs.map .bool)) hh r rfl fun it s₂ hi => ?_)
  apply hi; clear hi; intro fp PV St X
  refine ⟨_, fp, [s.heap.objs.size], (bs.map D.bool).length, fun i v => PV i v ∧ i < (bs.map D.bool).length, St, fun i => (bs[i]?).getD false, rfl, ⟨X.W.sub, X.W.frame, fun i s Q E hi st hQ => X.W.item i s Q E hi st fun v h' tk p => hQ v h' tk ⟨p, hi⟩, X.W.done, X.W.self⟩, X.st, fun i v s' Q' E' hP hQ' => ?_, fun h' tk hk => ?_⟩
  · have hl : i < bs.length := List.length_map (f := D.bool) ▸ hP.2
    have hd : (bs.map D.bool)[i]? = some (.bool bs[i]) := by rw [List.getElem?_map, List.getElem?_eq_getElem hl]; rfl
    have r' := X.pv i v _ hP.1 hd
    apply RelV.eBool r'; clear r'
    dsimp only at hQ'
    rw [List.getElem?_eq_getElem hl] at hQ'
    exact wpAny_truthy_bool hQ'
  · rw [all_get]
    have k := X.k
    clear X r
    refine hide fun Gg kg => ?_
    obtain ⟨h₂, t₂, rfl, k₂⟩ := k
    refine kg ?_; clear kg Gg
    refine hQ _ _ ⟨⟨h', tk, rfl, fun b o e => hk b o (fun q => ?_) (k₂ b o e)⟩, .bool _⟩
    exact nn ((get_size s.heap).symm.trans (List.mem_singleton.mp q ▸ e))
theorem p_sum (Y : PrimK mg mb) {l : List D} {is : List Int} (e : intsD l = some is) : CalleeOK prog w K mg mb n 7566701 [.lst l] (.int is.sum) := by
  refine callee_of (fun _ q => by cases q) Y.sum fun P A s vs E Q hh F rl hQ => ?_
  apply RelL.eOne rl; clear rl; intro u r
  apply RelV.eLst r; clear r; intro _ _ hp ht rv
  have hi := ints_rel rv e
  have hall := hi.allInts
  have hn := hi.numsOf
  obtain ⟨xs, hx⟩ := AllInts.items hall
  rw [hx] at ht
  refine sum_intListG hh ht fun h' tk t' hk => ?_
  have hs : preSum (numAt xs) xs.size = is.sum := by
    rw [preSum_eq, List.take_of_length_le (by simp), ← nums_intItems, ← hx]
    rw [show (List.toArray _).toList = _ from rfl, hn]
  rw [hs]
  exact hQ _ _ ⟨⟨h', tk, rfl, hk⟩, .int _ _⟩
theorem p_chr (Y : PrimK mg mb) {i : Int} (hi : (decide (i < 0) || decide (i > 0x10FFFF)) = false) : CalleeOK prog w K mg mb n 6514802 [.int i] (.str ⟨#[i.toNat]⟩) := by
  refine callee_of (fun _ q => by cases q) Y.chr fun P A s vs E Q hh F rl hQ => ?_
  apply RelL.eOne rl; clear rl; intro u r
  (apply RelV.eInt r; clear r; intro _)
  exact PySem.P.chr_of_int hi (hQ _ _ ⟨kTk s _, .str _ _⟩)
theorem p_ord (Y : PrimK mg mb) {x : Str} {c : Nat} (hx : x.cps.toList = [c]) : CalleeOK prog w K mg mb n 7303780 [.str x] (.int c) := by
  refine callee_of (fun _ q => by cases q) Y.ord fun P A s vs E Q hh F rl hQ => ?_
  apply RelL.eOne rl; clear rl; intro u r
  (apply RelV.eStr r; clear r; intro _)
  have : x = ⟨#[c]⟩ := by
    obtain ⟨l⟩ := x
    have : l = #[c] := by rw [← hx]
    rw [this]
  subst this
  exact PySem.P.ord_of_char (hQ _ _ ⟨kTk s _, .int _ _⟩)
theorem p_max (Y : PrimK mg mb) {a b : Int} : CalleeOK prog w K mg mb n 7168376 [.int a, .int b] (.int (if b > a then b else a)) := by
  refine callee_of (fun _ q => by cases q) Y.max fun P A s vs E Q hh F rl hQ => ?_
  refine hide fun Gg kg => ?_
  obtain ⟨u, v, rfl, ra, rb⟩ := rl.two
  refine kg ?_; clear kg Gg
  (apply RelV.eInt ra; clear ra; intro _); (apply RelV.eInt rb; clear rb; intro _)
  refine max_two_ints hh fun h' tk hk => ?_
  have k : Keeps s { s with heap := h', toks := tk } := ⟨h', tk, rfl, hk⟩
  split
  · rename_i hc; rw [if_pos hc] at hQ; exact hQ _ _ ⟨k, .int _ _⟩
  · rename_i hc; rw [if_neg hc] at hQ; exact hQ _ _ ⟨k, .int _ _⟩
end
end Mine
end

section
open PySem PySem.W PyProof.Rows PySem.Calls
set_option maxRecDepth 100000
set_option genSizeOf false
set_option genInjectivity false
namespace Mine

/-- the functions and classes of a text -/
structure Tab where
  fns : List (Nat × Fn)
  cls : List (Nat × Fn)
  mth : List ((Nat × Nat) × Fn)
  flds : List (Nat × List Nat)
  tops : List Nat

noncomputable def findN {α : Type} : List (Nat × α) → Nat → Option α
  | [], _ => none
  | p :: r, n => match Nat.beq p.1 n with
    | true => some p.2
    | false => findN r n
noncomputable def findNN {α : Type} : List ((Nat × Nat) × α) → Nat → Nat → Option α
  | [], _, _ => none
  | p :: r, n, m => match Nat.beq p.1.1 n && Nat.beq p.1.2 m with
    | true => some p.2
    | false => findNN r n m
noncomputable def memN : List Nat → Nat → Bool
  | [], _ => false
  | p :: r, n => match Nat.beq p n with
    | true => true
    | false => memN r n
/-- one level of calls -/
structure Lv where
  f : Nat → List D → Option D
  m : Nat → D → List D → Option D
  k : Nat → List D → Option (List (Nat × D))
  u : Nat → Nat → List (Nat × D) → List D → Option (List (Nat × D))
noncomputable def isClsT (T : Tab) (c : Nat) : Bool := (findN T.cls c).isSome
noncomputable def foT (T : Tab) (c n : Nat) : Bool := match findN T.flds c with
  | some l => memN l n
  | none => false
noncomputable def knT (T : Tab) (n : Nat) : Bool := memN T.tops n
noncomputable def lv (T : Tab) : Nat → Lv
  | 0 => ⟨fun _ _ => none, fun _ _ _ => none, fun _ _ => none, fun _ _ _ _ => none⟩
  | n + 1 => {
      f := fun f ds => match findN T.fns f with
        | some fn => runFn (lv T n).f (lv T n).m (isiD (isClsT T)) (knT T) (foT T) (lv T n).k (lv T n).u fn ds
        | none => match findN T.cls f with
          | some fn => (runMut (lv T n).f (lv T n).m (isiD (isClsT T)) (knT T) (foT T) (lv T n).k (lv T n).u fn f [] ds).map (.inst f)
          | none => primP f ds
      m := fun m x ds => match x with
        | .inst c fs => match findNN T.mth c m with
          | some fn => if fs.all (fun p => !(dec p.1 == dec m)) && !exempt (dec m) then runFn (lv T n).f (lv T n).m (isiD (isClsT T)) (knT T) (foT T) (lv T n).k (lv T n).u fn (.inst c fs :: ds) else none
          | none => none
        | x => methP m x ds
      k := fun c ds => match findN T.cls c with
        | some fn => runMut (lv T n).f (lv T n).m (isiD (isClsT T)) (knT T) (foT T) (lv T n).k (lv T n).u fn c [] ds
        | none => none
      u := fun f c fs ds => match findN T.fns f with
        | some fn => runMut (lv T n).f (lv T n).m (isiD (isClsT T)) (knT T) (foT T) (lv T n).k (lv T n).u fn c fs ds
        | none => none }

structure TabOK (K : Frag) (mg mb : Str → Option Value) (T : Tab) : Prop where
  prim : PrimK mg mb
  isiK : IsiK K mg mb (isClsT T)
  isig : GlobV mg mb ("isinstance" : Str) (.builtin "isinstance")
  kn : ∀ n, knT T n = true → ∃ v, mg (dec n) = some v
  fld : ∀ c C n, foT T c n = true → mg (dec c) = some (.ref C) → ClsFld K C n
  set : ∀ c C n, foT T c n = true → mg (dec c) = some (.ref C) → ClsSet K C n
  fn : ∀ f fn, findN T.fns f = some fn → ∃ v0, GlobV mg mb (dec f) v0 ∧ FnIs K v0 fn
  cls : ∀ c fn, findN T.cls c = some fn → ∃ C fI, ClsIs K mg c C fI fn
  mth : ∀ c m fn, findNN T.mth c m = some fn → ∃ C f, mg (dec c) = some (.ref C) ∧ findIn K (.ref C) "__getattribute__" = some (some (.builtin "object.__getattribute__")) ∧ findIn K (.ref C) "__getattr__" = some none ∧
    findIn K (.ref C) (dec m) = some (some (.ref f)) ∧ typeIn K (.ref f) = some (.type "function") ∧ FnIs K (.ref f) fn

section
variable {prog : Program} {w : World} {K : Frag} {mg mb : Str → Option Value} {P P' W W' : Addr → Prop} {A : Around} {E : Value → Shared → Prop} {s s' : Shared} {n m : Nat}
theorem CalleeOK.le {f : Nat} {ds : List D} {d : D} (h : CalleeOK prog w K mg mb n f ds d) (hm : n ≤ m) : CalleeOK prog w K mg mb m f ds d := by
  obtain ⟨v0, a, b, c⟩ := h
  exact ⟨v0, a, b, fun P A s vs E Q hA => c P A s vs E Q (hA.le hm)⟩
theorem MethOK.le {f : Nat} {x : D} {ds : List D} {d : D} (h : MethOK prog w K mg mb n f x ds d) (hm : n ≤ m) : MethOK prog w K mg mb m f x ds d :=
  fun P A s ov env o apos pos args E Q hA => h P A s ov env o apos pos args E Q (hA.le hm)
theorem MkOK.le {c : Nat} {ds : List D} {fs : List (Nat × D)} (h : MkOK prog w K mg mb n c ds fs) (hm : n ≤ m) : MkOK prog w K mg mb m c ds fs := by
  obtain ⟨v0, a, b, c⟩ := h
  exact ⟨v0, a, b, fun P A s vs E Q hA => c P A s vs E Q (hA.le hm)⟩
theorem MutOK.le {f c : Nat} {fs fs' : List (Nat × D)} {ds : List D} (h : MutOK prog w K mg mb n f c fs ds fs') (hm : n ≤ m) : MutOK prog w K mg mb m f c fs ds fs' := by
  obtain ⟨v0, a, b, c⟩ := h
  exact ⟨v0, a, b, fun h₀ P W A s v vs E Q hA => c h₀ P W A s v vs E Q (hA.le hm)⟩

section
variable {β : Type} {d : β} {G : Prop}
theorem one_inv {l : List Nat} {f : Nat → Option β} (h : (match l with | [c] => f c | _ => none) = some d) (k : ∀ c, l = [c] → f c = some d → G) : G := by
  cases l with
  | nil => exact nn h
  | cons c r =>
    cases r with
    | nil => exact k c rfl h
    | cons _ _ => exact nn h
theorem iFn {o : Option Fn} {f : Fn → Option β} {z : Option β} (h : (match o with | some x => f x | none => z) = some d) (k1 : ∀ x, o = some x → f x = some d → G) (k2 : z = some d → G) : G := by
  cases o with
  | none => exact k2 h
  | some x => exact k1 x rfl h
end
theorem prim_ok (Y : PrimK mg mb) {f : Nat} {ds : List D} {d : D} (e : primP f ds = some d) : CalleeOK prog w K mg mb n f ds d := by
  cases ds with
  | nil => exact nn e
  | cons x r =>
  cases r with
  | nil =>
    apply iE e <;> clear e
    · intro h e; cases Nat.eq_of_beq_eq_true h; exact p_len Y e
    intro _ e; apply iE e <;> clear e
    · intro h e; cases Nat.eq_of_beq_eq_true h
      cases x with
      | int b =>
        cases b with
        | ofNat k => cases e; exact p_range Y
        | negSucc k => exact nn e
      | _ => exact nn e
    intro _ e; apply iE e <;> clear e
    · intro h e; cases Nat.eq_of_beq_eq_true h
      apply dIn e; clear e; intro b hb e; subst hb
      exact p_str Y e
    intro _ e; apply iE e <;> clear e
    · intro h e; cases Nat.eq_of_beq_eq_true h
      apply dLs e; clear e; intro b hb e; subst hb
      apply iB e; clear e; intro hl e
      cases e; exact p_tuple Y (Nat.le_of_ble_eq_true hl)
    intro _ e; apply iE e <;> clear e
    · intro h e; cases Nat.eq_of_beq_eq_true h
      apply dLs e; clear e; intro b hb e; subst hb
      apply iM e; clear e; intro bs hb e; subst e
      exact p_all Y hb
    intro _ e; apply iE e <;> clear e
    · intro h e; cases Nat.eq_of_beq_eq_true h
      apply dLs e; clear e; intro b hb e; subst hb
      apply iM e; clear e; intro bs hb e; subst e
      exact p_sum Y hb
    intro _ e; apply iE e <;> clear e
    · intro h e; cases Nat.eq_of_beq_eq_true h
      apply dIn e; clear e; intro b hb e; subst hb
      apply iE e <;> clear e
      · intro _; exact nn
      · intro hi e; cases e; exact p_chr Y (Bool.eq_false_iff.mpr hi)
    intro _ e; apply iB e; clear e
    intro h e; cases Nat.eq_of_beq_eq_true h
    cases x with
    | str s =>
      apply one_inv e; clear e; intro c hc e
      cases e; exact p_ord Y hc
    | _ => exact nn e
  | cons y r =>
    cases r with
    | nil =>
      cases x with
      | int a =>
        cases y with
        | int b =>
          apply iB e; clear e
          intro h e; cases Nat.eq_of_beq_eq_true h; cases e; exact p_max Y
        | _ => exact nn e
      | _ => exact nn e
    | cons _ _ => exact nn e
theorem methP_ok {f : Nat} {x : D} {ds : List D} {d : D} (e : methP f x ds = some d) : MethOK prog w K mg mb n f x ds d := by
  cases x with
  | str s =>
    cases ds with
    | nil => apply iB e; clear e; intro h e; cases Nat.eq_of_beq_eq_true h; exact meth_lower e
    | cons y r =>
      cases r with
      | nil =>
        cases y with
        | lst l => apply iB e; clear e; intro h e; cases Nat.eq_of_beq_eq_true h; exact meth_join e (.inl rfl)
        | tup l => apply iB e; clear e; intro h e; cases Nat.eq_of_beq_eq_true h; exact meth_join e (.inr rfl)
        | _ => exact nn e
      | cons _ _ => cases y <;> exact nn e
  | tup l =>
    cases ds with
    | nil => exact nn e
    | cons y r =>
      cases r with
      | nil =>
        cases y with
        | str s => apply iB e; clear e; intro h e; cases Nat.eq_of_beq_eq_true h; exact meth_index e
        | _ => exact nn e
      | cons _ _ => cases y <;> exact nn e
  | dct es =>
    cases ds with
    | nil => exact nn e
    | cons y r =>
      cases r with
      | nil =>
        cases y with
        | str s => apply iB e; clear e; intro h e; cases Nat.eq_of_beq_eq_true h; exact meth_get e
        | _ => exact nn e
      | cons _ _ => cases y <;> exact nn e
  | _ => exact nn e

/-- a method of the text's own -/
theorem meth_own {T : Tab} (Y : TabOK K mg mb T) {Γ : Nat → List D → Option D} {Γm : Nat → D → List D → Option D} {isi : D → Nat → Option Bool} {kn : Nat → Bool} {fo : Nat → Nat → Bool} {Γk : Nat → List D → Option (List (Nat × D))} {Γu : Nat → Nat → List (Nat × D) → List D → Option (List (Nat × D))}
    (O : Orc2 prog w K mg mb Γ Γm isi kn fo Γk Γu n) {c f : Nat} {fs : List (Nat × D)} {ds : List D} {d : D} {fn : Fn} (hf : findNN T.mth c f = some fn) (hs : fs.all (fun p => !(dec p.1 == dec f)) = true) (hex : exempt (dec f) = false) (ev : runFn Γ Γm isi kn fo Γk Γu fn (.inst c fs :: ds) = some d) :
    MethOK prog w K mg mb (n + 1) f (.inst c fs) ds d := by
  obtain ⟨C, fa, hC, g1, g2, g3, g4, FI⟩ := Y.mth _ _ _ hf
  intro P A s ov env o apos pos args E Q hA G F r hline hlen hstar hargn hargs hQ
  refine s_methodCall hline hlen (hstar pos) fun pl => ?_
  apply RelV.eInst r; clear r; intro _ _ _ _ _ h1 h2 h3 h4 I rf on
  rename_i x C' dx ox od
  rw [hC] at h4
  cases h4
  have hsh : shadowIn (some od) (dec f) = some false := by
    unfold shadowIn
    dsimp only
    rw [on (dec f) (fun p hp => ?_) hex]
    · rfl
    · have := List.all_eq_true.mp hs p hp
      simpa using this
  refine method_fn G.X I g1 g2 g3 g4 hsh ?_
  refine callWith_of (P := Gd K mg mb) (by rw [hstar pos]; rfl) FI.keep (hargs pos s _ _ (kRfl s) fun vs s₁ k rl => ⟨G.keeps (kp k), ?_⟩)
  have r : RelV prog w mg P s.heap (.ref x) (.inst c fs) := .inst h1 h2 h3 hC I rf on
  exact fn_core O FI ev hA (G.keeps (kp k)) (F.keeps (kp k)) (.cons (r.keeps k) rl) fun v s' p => hQ v s' ⟨kTr k p.1, p.2⟩

/-- every level is sound -/
theorem lv_ok {T : Tab} (Y : TabOK K mg mb T) (n : Nat) : Orc2 prog w K mg mb (lv T n).f (lv T n).m (isiD (isClsT T)) (knT T) (foT T) (lv T n).k (lv T n).u (2 * n) := by
  induction n with
  | zero => exact ⟨⟨fun f ds d e => nn e, fun m x ds d e => nn e, fun x c b e => isi_ok Y.isiK e, Y.isig, Y.kn, Y.fld⟩, fun c ds fs e => nn e, fun f c fs ds fs' e => nn e, Y.set⟩
  | succ n O =>
    refine ⟨⟨fun f ds d e => ?_, fun m x ds d e => ?_, fun x c b e => isi_ok Y.isiK e, Y.isig, Y.kn, Y.fld⟩, fun c ds fs e => ?_, fun f c fs ds fs' e => ?_, Y.set⟩
    · apply iFn e <;> clear e
      · intro fn hf e
        exact (Y.fn _ _ hf).elim fun v0 H => (fn_callee O H.2 H.1 e).le (Nat.le_succ _)
      intro e; apply iFn e <;> clear e
      · intro fn hf e
        apply iM e; clear e; intro fs hfs e; subst e
        exact (Y.cls _ _ hf).elim fun C H => H.elim fun fI H => (cls_callee O H hfs).le (Nat.le_refl _)
      · exact prim_ok Y.prim
    · cases x with
      | inst c fs =>
        apply iFn e <;> clear e
        · intro fn hf e
          apply iB e; clear e; intro hs e
          rw [Bool.and_eq_true, Bool.not_eq_true'] at hs
          exact (meth_own Y O hf hs.1 hs.2 e).le (Nat.le_succ _)
        · exact nn
      | _ => exact methP_ok e
    · apply iFn e <;> clear e
      · intro fn hf e
        exact (Y.cls _ _ hf).elim fun C H => H.elim fun fI H => (cls_mk O H e).le (Nat.le_refl _)
      · exact nn
    · apply iFn e <;> clear e
      · intro fn hf e
        exact (Y.fn _ _ hf).elim fun v0 H => (fn_mut O H.2 H.1 e).le (Nat.le_succ _)
      · exact nn
end
end Mine
end

section
open PySem PySem.W PyProof.Rows PySem.Calls Builtin Builtin.ObjectAttr
set_option maxRecDepth 100000
namespace Mine

noncomputable def ExcShape (C : Addr) (o : Obj) : Prop := ∃ nm q N bs sn sub ab col dd k0 k1 k2 k3 k5 Pc, o = excClassObj nm q C N bs [.ref Pc, .type "Exception", .type "BaseException", .type "object"] true sn sub ab col dd k0 k1 k2 k3 k5 "Exception.__new__"
theorem obj_eq {t t' : String} {dd : Option Addr} {nm : Str} {bs mro mro' : List Value} {ns : Addr} {qn : Str} {hd hd' : Bool} {sn : List Str} {sub : List Value} {ab : Bool} {col : Option Bool} {del del' : Bool} {sl sl' : Array (Option Value)}
    (h1 : t = t') (h2 : mro = mro') (h3 : sl = sl') (h4 : hd = hd') (h5 : del = del') : (⟨.type t, dd, .cls ⟨nm, bs, mro, ns, qn, hd, sn, sub, ab, col, del⟩, sl⟩ : Obj) = ⟨.type t', dd, .cls ⟨nm, bs, mro', ns, qn, hd', sn, sub, ab, col, del'⟩, sl'⟩ := h1 ▸ h2 ▸ h3 ▸ h4 ▸ h5 ▸ rfl
noncomputable def excP (C : Addr) (o : Obj) : Option (PLift (ExcShape C o)) := match o with
  | ⟨.type t, dd, .cls ⟨nm, bs, m0 :: .ref Pc :: m2, ns, qn, hd, sn, sub, ab, col, del⟩, sl⟩ =>
    whn (t == "type" && (m0 :: .ref Pc :: m2 == [.ref C, .ref Pc, .type "Exception", .type "BaseException", .type "object"] && (sl == #[sl.getD 0 none, sl.getD 1 none, sl.getD 2 none, sl.getD 3 none, some (.builtin "Exception.__new__"), sl.getD 5 none] && (hd == true && del == false)))) fun h =>
      some ⟨⟨nm, qn, ns, bs, sn, sub, ab, col, dd, _, _, _, _, _, Pc, obj_eq (eq_of_beq (aL h)) (eq_of_beq (aL (aR h))) (eq_of_beq (aL (aR (aR h)))) (eq_of_beq (aL (aR (aR (aR h))))) (eq_of_beq (aR (aR (aR (aR h)))))⟩⟩
  | _ => none
/-- an exception class of the text: PhpFault or a class below it -/
noncomputable def excOf (K : Frag) (C : Addr) : Bool := match K.lookup C with
  | some o => (excP C o).isSome
  | none => false
theorem excOf_obj {K : Frag} {C : Addr} (e : excOf K C = true) : ∃ nm q N bs sn sub ab col dd k0 k1 k2 k3 k5 Pc, K.lookup C = some (excClassObj nm q C N bs [.ref Pc, .type "Exception", .type "BaseException", .type "object"] true sn sub ab col dd k0 k1 k2 k3 k5 "Exception.__new__") := by
  unfold excOf at e
  cases h : K.lookup C with
  | none => rw [h] at e; exact nf e
  | some o =>
    rw [h] at e
    obtain ⟨nm, q, N, bs, sn, sub, ab, col, dd, k0, k1, k2, k3, k5, Pc, ho⟩ := ((excP C o).get e).down
    exact ⟨nm, q, N, bs, sn, sub, ab, col, dd, k0, k1, k2, k3, k5, Pc, congrArg some ho⟩

/-- the heap behind an exception's birth: the tuple of what it was called with, the exception -/
noncomputable def born (h : Heap) (C : Addr) (l : List Value) : Heap := (h.push { cls := .type "tuple", data := .seq l.toArray }).push { cls := .ref C, data := .fields #[.ref h.objs.size, .none, .none, .none, .bool false, .none] }
theorem born_made (h : Heap) (C : Addr) (l : List Value) : Heap.MadeExcOf h (born h C l) (h.objs.size + 1) (.ref C) l where
  keeps _ _ q := Heap.get?_push_of_some _ (Heap.get?_push_of_some _ q)
  new := Heap.get?_none_of_le (Nat.le_succ _)
  there := ⟨h.objs.size, by unfold born; heap_get, Heap.get?_none_of_le (Nat.le_refl _), Heap.get?_push_of_some _ (Heap.get?_push_at rfl rfl)⟩

section
variable {prog : Program} {w : World} {K : Frag} {A : Around} {E : Value → Shared → Prop} {h : Heap} {g : Array GenState} {d : Drawn} {t : Nat} {os : OsState}
variable {nm q : Str} {C N Pc : Addr} {bs : List Value} {sn : List Str} {sub : List Value} {ab : Bool} {col : Option Bool} {dd : Option Addr} {k0 k1 k2 k3 k5 : Option Value}

/-- the class's own place among the classes above it -/
theorem x_below {M : Model} {T : String} {b : Bool} {Q : Bool → Shared → Prop} (hC : h.get? C = some (excClassObj nm q C N bs [.ref Pc, .type "Exception", .type "BaseException", .type "object"] true sn sub ab col dd k0 k1 k2 k3 k5 "Exception.__new__"))
    (e : [Value.type "Exception", .type "BaseException", .type "object"].contains (.type T) = b) (hq : Q b ⟨h, g, d, t, os⟩) : wpAny M A (isSubtype (.ref C) (.type T)) Q E ⟨h, g, d, t, os⟩ := by
  refine wpAny_isSubtype_exc hC ?_
  rw [List.contains_cons, List.contains_cons, e]
  exact hq
/-- Exception.__new__ of the class -/
theorem x_new {R : Result → Shared → Prop} {l : List Value} (hC : h.get? C = some (excClassObj nm q C N bs [.ref Pc, .type "Exception", .type "BaseException", .type "object"] true sn sub ab col dd k0 k1 k2 k3 k5 "Exception.__new__"))
    (hq : R (.ok (.ret (.ref (h.objs.size + 1)))) ⟨born h C l, g, d, t, os⟩) (hl : l.length ≤ sizeLine) : codeAny (model prog w) A (.builtin "Exception.__new__" ⟨.ref C :: l, []⟩) R ⟨h, g, d, t, os⟩ := by
  have cE : [Value.type "Exception", .type "BaseException", .type "object"].contains (.type "Exception") = true := by decide +kernel
  have cA : [Value.type "Exception", .type "BaseException", .type "object"].contains (.type "AttributeError") = false := by decide +kernel
  have cN : [Value.type "Exception", .type "BaseException", .type "object"].contains (.type "NameError") = false := by decide +kernel
  have ends := PySem.F.excBase_Exception.ends
  refine codeAny_builtinAt PySem.F.excBase_Exception.entry (PySem.wpAt_bind ?_)
  change PySem.wpAt _ _ _ (stack >>= _) _ _ _
  refine PySem.wpAt_bind (PySem.wpAt_stack fun _ _ => PySem.wpAt_of_wpAny ?_)
  wp_walk
  rw [PySem.F.excBase_Exception.owner]
  apply PySem.wpAt_of_wpAny
  repeat (first | with_reducible exact wpAny_madeHere_exc PySem.F.excBase_Exception.canon hC hq | with_reducible refine x_below hC cE ?_ | with_reducible refine x_below hC cA ?_ | with_reducible refine x_below hC cN ?_ | with_reducible refine wpAny_madeHere_exc PySem.F.excBase_Exception.canon hC ?_ | with_reducible refine wpAny_loadPart_at hC ?_ | wp_step)
  change R _ _
  rw [Heap.size_push]
  exact hq

/-- the class's call, down to its __init__ -/
theorem x_make {fI : Addr} (X : K.In h) (hx : excOf K C = true) (hi : findIn K (.ref C) "__init__" = some (some (.ref fI))) (hft : typeIn K (.ref fI) = some (.type "function")) {rest : List Value} {Q : Value → Shared → Prop}
    (hq : ∀ h' e, Heap.MadeExcOf h h' e (.ref C) rest →
      wpAny (model prog w) (A.under (.builtin "type.__call__" ⟨.ref C :: rest, []⟩)) (call (.ref fI) (.ref e :: rest)) (fun r s' => r = .none ∧ Q (.ref e) s') E ⟨h', g, d, t, os⟩) (hrest : rest.length ≤ sizeLine := by size_fits) :
    wpAny (model prog w) A (call (.ref C) rest) Q E ⟨h, g, d, t, os⟩ := by
  have Z := born_made h C rest
  have hq := hq _ _ Z
  refine hide fun Gg kg => ?_
  obtain ⟨nm, q, N, bs, sn, sub, ab, col, dd, k0, k1, k2, k3, k5, Pc, hK⟩ := excOf_obj hx
  refine kg ?_; clear kg Gg
  have hC := X _ _ hK
  have l1 := tc_lookup
  have l2 := tc_bind (.ref C)
  have l3 : (⟨h, g, d, t, os⟩ : Shared).TypeIs (.ref C) "type" := ⟨_, hC, rfl⟩
  have hE : (born h C rest).get? (h.objs.size + 1) = some { cls := .ref C, data := .fields #[.ref h.objs.size, .none, .none, .none, .bool false, .none] } := by unfold born; heap_get
  apply wpAny_call
  apply codeAny_of_tree
  change wpAny _ _ (callAny (.ref C) _) _ _ _
  repeat (any_goals (first | assumption | with_reducible apply wpAny_loadPart_at hC | wp_step))
  refine ⟨rfl, codeAny_call_builtin_at (Code.quiet_builtin _ (by decide +kernel)) entry_typeCall (wpAny_check_type_call_sub hC ?_)⟩
  repeat (first | with_reducible apply wpAny_madeBy_exc hC | with_reducible apply wpAny_loadPart_at hC | wp_step)
  refine codeAny_call_builtin_code (Code.quiet_builtin _ PySem.F.excBase_Exception.quiet) (wpAny_check_new_subU PySem.F.excBase_Exception (by simp) .base hC (x_new hC ?_ hrest))
  change wpAny _ _ _ _ _ _
  unfold isInstance
  repeat (first | with_reducible apply wpAny_loadPart_at hE | wp_step)
  refine wpAny_isSubtype_exc (Z.keeps _ _ hC) ?_
  rw [show (Value.ref C :: [.ref Pc, .type "Exception", .type "BaseException", .type "object"]).contains (.ref C) = true from by simp]
  repeat (first | with_reducible apply wpAny_loadPart_at hE | wp_step)
  change wpAny _ _ (typeLookup (.ref C) _) _ _ _
  have X' := X.keeps Z.keeps
  refine (looks_findIn X' hi).at (wpAny_holding (wpAny_bind ((bind_fn X' _ hft).at (wpAny_bind (wpAny_mono hq (fun r s' hr => ?_) fun _ _ x => x)))))
  cases hr.1
  wp_walk
  exact hr.2
end
end Mine
end

section
open PySem PySem.W PyProof.Rows PySem.Calls Builtin Builtin.ObjectAttr
set_option maxRecDepth 100000
namespace Mine

theorem x_mro {K : Frag} {C : Addr} (hx : excOf K C = true) : ∃ cd Pc, clsIn K C = some cd ∧ cd.mro = [.ref C, .ref Pc, .type "Exception", .type "BaseException", .type "object"] ∧ cd.hasDict = true := by
  refine hide fun Gg kg => ?_
  obtain ⟨nm, q, N, bs, sn, sub, ab, col, dd, k0, k1, k2, k3, k5, Pc, hK⟩ := excOf_obj hx
  refine kg ?_; clear kg Gg
  exact ⟨_, Pc, by unfold clsIn; rw [hK], rfl, rfl⟩

section
variable {prog : Program} {w : World} {K : Frag} {mg mb : Str → Option Value} {A : Around} {E : Value → Shared → Prop} {s s' : Shared} {h h' : Heap} {R : Result → Shared → Prop} {C x : Addr}

/-- a name that no class on the way takes for itself -/
theorem looks_taker {M : Model} {name : Str} (X : K.In h) (e : takerIn K C name = some none) : ∃ a, Looks M h (typeLookup (.ref C) name) a ∧ Looks M h (storeTaker? a) none := by
  unfold takerIn at e
  cases f : findIn K (.ref C) name with
  | none => rw [f] at e; cases e
  | some a =>
    rw [f] at e
    refine ⟨a, looks_findIn X f, ?_⟩
    cases a with
    | none => exact .now
    | some b =>
      have e : (takesIn K b).map (fun z => if z then some b else none) = some none := e
      cases q : takesIn K b with
      | none => rw [q] at e; cases e
      | some z =>
        cases z with
        | true => rw [q] at e; cases e
        | false => exact (looks_takesIn X q).andThen .now
/-- object.__setattr__ of an exception comes down to its own dict -/
theorem x_store {ox : Obj} {od : Option Obj} {name : Str} {tk : Tok} {v : Value} (X : K.In s.heap) (I : InstAt s.heap x ox C od) (hx : excOf K C = true) (ht : takerIn K C name = some none)
    (h : ∀ b, wpAny (model prog w) A.in1 (storeInOwnDict (.ref x) (.ref C) (.str name tk) name v b)
      (fun fin s' => match fin with | .done f => R (.ok f) s' | .again c' => c'.quiet = true ∧ codeAny (model prog w) A c' R s') (fun e s' => R (.error e) s') s) :
    codeAny (model prog w) A (.call (.builtin "object.__setattr__") ⟨[.ref x, .str name tk, v], []⟩) R s := by
  refine hide fun Gg kg => ?_
  obtain ⟨cd, Pc, hc, hm, _⟩ := x_mro hx
  obtain ⟨a, l1, l2⟩ := looks_taker (M := model prog w) X ht
  refine kg ?_; clear kg Gg
  have l0 : Looks (model prog w) s.heap (isInstance (.ref x) (.type "object")) true := I.type.andThen (looks_mroIn X (by unfold mroIn; rw [hc, Option.bind_some, hm]; simp))
  have lm : Looks (model prog w) s.heap (mroOf (.ref C)) cd.mro := (looks_clsIn X hc).andThen .now
  refine codeAny_call_builtin PySem.F.store_object.slot.plain PySem.F.store_object.entry (check_slot (i := "object.__setattr__") (owner := "object") (n := "__setattr__") (self := .ref x) (rest := [.str name tk, v]) (kw := []) PySem.F.store_object.kind PySem.F.store_object.split l0 (PySem.F.store_object.args (.ref x) (.str name tk) v) ?_)
  rw [osa_eq, refuse_eq]
  refine wpAny_bind (wpAny_bind (I.type.here (wpAny_bind (lm.here ?_))))
  rw [hm, refuseLoop_ref, refuseLoop_ref, PySem.F.store_Exception.passes]
  exact wpAny_pure (wpAny_bind (I.type.here (wpAny_bind (l1.here (wpAny_bind (l2.here (h _)))))))

/-- a heap in which x has been given a dict of its own -/
noncomputable def withDict (h : Heap) (x : Addr) : Heap := (h.push emptyDict).update x fun o => { cls := o.cls, dict := some h.objs.size, data := o.data, slots := o.slots }
theorem withDict_at {c : Value} {vs : Array Value} {sl : Array (Option Value)} (g : h.get? x = some ⟨c, none, .fields vs, sl⟩) :
    (withDict h x).get? x = some ⟨c, some h.objs.size, .fields vs, sl⟩ ∧ (withDict h x).get? h.objs.size = some (dictOf [] 0) ∧ ∀ b o, b ≠ x → h.get? b = some o → (withDict h x).get? b = some o :=
  ⟨Heap.get?_update_self _ (Heap.get?_push_of_some _ g) rfl, (Heap.get?_update_ne _ _ _ _ (Nat.ne_of_gt (Heap.lt_size g))).trans (Heap.get?_push_at rfl rfl),
    fun _ _ n e => (Heap.get?_update_ne _ _ _ _ n).trans (Heap.get?_push_of_some _ e)⟩
/-- the first field of an exception's own -/
theorem x_set {vs : Array Value} {sl : Array (Option Value)} {name : Str} {v : Value} {Q : Unit → Shared → Prop} (X : K.In s.heap) (hx : excOf K C = true) (hs : findIn K (.ref C) "__setattr__" = some (some (.builtin "object.__setattr__"))) (ht : takerIn K C name = some none)
    (he : s.heap.get? x = some ⟨.ref C, none, .fields vs, sl⟩)
    (hQ : ∀ h' tk tk', h'.get? x = some ⟨.ref C, some s.heap.objs.size, .fields vs, sl⟩ → h'.get? s.heap.objs.size = some (dictOf (putL name (PyData.keyHash w.params name) (.str name tk') v []) (putN name [] 0)) →
      (∀ b o, b ≠ x → s.heap.get? b = some o → h'.get? b = some o) → Q () { s with heap := h', toks := tk }) :
    wpAny (model prog w) A (setAttr (.ref x) name v) Q E s := by
  have I : InstAt s.heap x ⟨.ref C, none, .fields vs, sl⟩ C none := ⟨he, rfl, rfl, trivial⟩
  refine set_plain X I hs (x_store (s := { s with toks := s.toks + 1 }) X I hx ht fun b => ?_)
  refine hide fun Gg kg => ?_
  obtain ⟨cd, Pc, hc, hm, hd⟩ := x_mro hx
  obtain ⟨g1, g2, g3⟩ := withDict_at he
  refine kg ?_; clear kg Gg
  refine wpAny_bind (wpAny_pure (wpAny_bind (wpAny_bind (wpAny_loadPart he (wpAny_bind ((looks_clsIn (h := s.heap) X hc) _ _ _ _ (fun _ _ e => e) ?_))))))
  rw [hd]
  refine wpAny_bind (wpAny_alloc' (wpAny_bind (wpAny_update' (Heap.get?_push_of_some _ he) (wpAny_pure ?_))))
  change wpAny _ _ (storeInDict s.heap.objs.size (.str name _) name v) _ _ ⟨withDict s.heap x, _, _, _, _⟩
  generalize withDict s.heap x = H at g1 g2 g3 ⊢
  have now : ∀ tk, (H.update s.heap.objs.size (Obj.putName name (PyData.keyHash w.params name) (.str name tk) v)).get? s.heap.objs.size = some (dictOf (putL name (PyData.keyHash w.params name) (.str name tk) v []) (putN name [] 0)) := fun tk => by
    rw [Heap.get?_update_self _ g2 (by rw [putName_dict]; rfl), putName_dict]
  have same : ∀ f, Heap.SameBut s.heap.objs.size H (H.update s.heap.objs.size f) := fun f => .update ..
  unfold storeInDict newKeyGuard nsSet
  refine wpAny_bind (wpAny_pure (wpAny_bind (wpAny_bind (wpAny_bind (wpAny_askSetting (wpAny_pure (wpAny_bind (wpAny_mkText (wpAny_bind (wpAny_loadPart g2 ?_))))))))))
  dsimp only [dictOf]
  rw [aRefKeyMayBeTheName_at, show (!(#[] : Array DictEntry).any (·.key.isStr name) && (#[] : Array DictEntry).any (·.refKey)) = false by simp]
  refine wpAny_updatePart (s := ⟨H, _, _, _, _⟩) g2 ?_
  refine wpAny_bind (wpAny_lookBehind (now _) (pastItsLine_dict (by rw [List.size_toArray, sizeLine_eq]; simp [putL])) (wpAny_pure (hQ _ _ _ (((same _).2 x (Nat.ne_of_lt (Heap.lt_size he))).trans g1) (now _) fun b o q e => ((same _).2 b (Nat.ne_of_lt (Heap.lt_size e))).trans (g3 b o q e))))

/-- an exception's own field is read -/
theorem x_get {vs : Array Value} {sl : Array (Option Value)} {name : Str} {v : Value} {od : Obj} {dx : Addr} {expr : Bool} {Q : Value → Shared → Prop} (X : K.In s.heap) (hx : excOf K C = true)
    (hg : findIn K (.ref C) "__getattribute__" = some (some (.builtin "BaseException.__getattribute__"))) (hf : findIn K (.ref C) name = some none) (hk : findIn K (.ref C) "__getattr__" = some none)
    (he : s.heap.get? x = some ⟨.ref C, some dx, .fields vs, sl⟩) (hd : s.heap.get? dx = some od) (hv : lookIn name od = some (some v)) (hh : handedIn v = true)
    (hQ : ∀ tk, Q v { s with toks := tk }) : wpAny (model prog w) A (getAttr (.ref x) name expr) Q E s := by
  have I : InstAt s.heap x ⟨.ref C, some dx, .fields vs, sl⟩ C (some od) := ⟨he, rfl, rfl, hd⟩
  refine hide fun Gg kg => ?_
  obtain ⟨cd, Pc, hc, hm, hdi⟩ := x_mro hx
  refine kg ?_; clear kg Gg
  have hF : findObj K C (some od) name = some (.value v) := by
    unfold findObj
    simp only [hc, hf, Option.bind_some, PySem.W.ownOf, hdi, if_true, hv]
  have FB := PySem.F.attr_Exception
  have sub : Looks (model prog w) s.heap (isInstance (.ref x) (.type "BaseException")) true := I.type.andThen (looks_mroIn X (by unfold mroIn; rw [hc, Option.bind_some, hm]; simp))
  refine wpAny_bind (wpAny_mkText (wpAny_holding (wpAny_bind (I.type _ _ _ _ (fun _ _ e => e) (wpAny_bind (looks_findIn X hg _ _ _ _ (fun _ _ e => e) ?_))))))
  dsimp only
  rw [show (onTheHeap (.ref C) && Value.builtin "BaseException.__getattribute__" == Value.builtin "object.__getattribute__") = false from by rw [show (Value.builtin "BaseException.__getattribute__" == Value.builtin "object.__getattribute__") = false from by decide +kernel, Bool.and_false], if_neg (by decide)]
  refine wpAny_bind ((looks_hook (M := model prog w) (mc := .ref C) (r := none) X (by simpa [onTheHeap] using hk)) _ _ _ _ (fun _ _ e => e) (wpAny_bind (wpAny_attempt (wpAny_holding ?_))))
  unfold callGetattribute
  rw [show (expr && onTheHeap (Value.builtin "BaseException.__getattribute__")) = false from Bool.and_false _, if_neg (by decide)]
  unfold boundAndCalled
  rw [FB.ga.bind]
  refine wpAny_bind (wpAny_pure ?_)
  show wpAny _ _ (call (.builtin "BaseException.__getattribute__") [.ref x, .str name s.toks]) _ _ _
  refine wpAny_call ?_
  refine codeAny_call_builtin FB.ga.plain PySem.F.entry_bexc_ga ?_
  refine @check_slot (model prog w) _ _ { s with toks := s.toks + 1 } "BaseException.__getattribute__" "BaseException" "__getattribute__" (.ref x) [.str name s.toks] [] _ (by decide +kernel) (by decide +kernel) sub (PySem.F.args_bexc_ga (.ref x) (.str name s.toks)) ?_
  have L0 := I.type (M := model prog w)
  have L1 := looks_find (M := model prog w) X I hF
  refine hide fun Gg kg => ?_
  obtain ⟨hh', g, d, t, os⟩ := s
  refine kg ?_; clear kg Gg
  refine wpAny_bind (wpAny_pure (wpAny_bind (wpAny_pure (wpAny_bind (L0.at (wpAny_bind (L1.at ?_)))))))
  refine wpAny_pure ?_
  show wpAny _ _ (handedOut v) _ _ _
  rw [handedOut_of hh]; exact wpAny_pure (hQ _)
end
end Mine
end

section
open PySem PySem.W PyProof.Rows PySem.Calls Builtin Builtin.ObjectAttr
set_option maxRecDepth 100000
namespace Mine

theorem x_find (K : Frag) : findCls K (.type "Exception") (.type "type") "__init__" = some (.val (.builtin "Exception.__init__")) := by kernel_rfl
theorem x_tga (K : Frag) : findIn K (.type "type") "__getattribute__" = some (some (.builtin "type.__getattribute__")) := by kernel_rfl
theorem x_sub (K : Frag) : subIn K (.type "type") (.type "type") = some true := by kernel_rfl
theorem x_meta : kitMeta "Exception" = true := by decide +kernel
theorem x_stub : Manifest.isStub "Exception" = false := by decide +kernel

section
variable {prog : Program} {w : World} {K : Frag} {mg mb : Str → Option Value} {A : Around} {E : Value → Shared → Prop} {s s' : Shared} {h h' : Heap} {R : Result → Shared → Prop} {C x : Addr}

theorem x_getM {pl : Sem Bool} {Q : Value × List Value → Shared → Prop} (X : K.In s.heap) (hQ : ∀ tk, Q (.builtin "Exception.__init__", []) { s with toks := tk }) :
    wpAny (model prog w) A (getMethod (.type "Exception") "__init__" pl) Q E s := by
  have hstub : opaqueClassAbove (.type "Exception") = pure none := by unfold opaqueClassAbove; dsimp only; rw [x_stub]; rfl
  have L0 : Looks (model prog w) s.heap (typeOf (.type "Exception")) (.type "type") := Looks.of_pure (kitMeta_of x_meta)
  have LO : Looks (model prog w) s.heap (opaqueClassAbove (.type "Exception")) none := Looks.of_pure hstub
  unfold getMethod
  refine wpAny_bind ((L0.andThen (looks_findIn X (x_tga K))).here ?_)
  dsimp only
  rw [if_pos canon_tga]
  refine wpAny_bind ?_
  refine cls_open X LO L0 (x_tga K) (looks_hook X (r := none) (by rfl)) (x_sub K) (x_find K) ?_
  exact wpAny_pure (handed_on rfl (wpAny_pure (hQ _)))

theorem x_check_init (X : K.In s.heap) (hx : excOf K C = true) {rest : List Value} {oe : Obj} {M : Model} {Q : Unit → Shared → Prop} (he : s.heap.get? x = some oe) (hcls : oe.cls = .ref C) (hq : Q () s) :
    wpAny M A (checkBuiltinCall "Exception.__init__" ⟨.ref x :: rest, []⟩) Q E s := by
  have star : ∀ (a b : String) (n : Nat), Bind.check ⟨.positional, "*", "Exception", .self, [⟨"args", .varPos, false⟩]⟩ a b n (List.map (·.1) ({ pos := Value.ref x :: rest } : Args).kw) = pure () := fun _ _ _ => check_star_args ..
  have short := PySem.F.excBase_Exception.noStar
  refine hide fun Gg kg => ?_
  obtain ⟨nm, q, N, bs, sn, sub, ab, col, dd, k0, k1, k2, k3, k5, Pc, hK⟩ := excOf_obj hx
  obtain ⟨h, g, d, t, os⟩ := s
  refine kg ?_; clear kg Gg
  have hC := X _ _ hK
  simp only [checkBuiltinCall, PySem.F.excBase_Exception.initKind, PySem.F.excBase_Exception.initSplit, PySem.F.excBase_Exception.initRow]
  repeat (first | (with_reducible apply wpAny_loadPart_at he; rw [hcls]) | with_reducible apply wpAny_loadPart_at hC | with_reducible refine x_below hC (show _ = true by decide +kernel) ?_ | wp_step)
  apply wpAny_onRaise
  rw [star]
  exact wpAny_pure hq

/-- the base class's __init__ -/
theorem x_base (X : K.In s.heap) (hx : excOf K C = true) {v : Value} {vs : Array Value} {sl : Array (Option Value)} {Q : Value → Shared → Prop} {t0 : Addr} (he : s.heap.get? x = some ⟨.ref C, none, .fields vs, sl⟩) (h0 : vs[0]? = some (.ref t0))
    (hQ : ∀ h', h'.get? x = some ⟨.ref C, none, .fields (vs.setIfInBounds 0 (.ref s.heap.objs.size)), sl⟩ → (∀ b o, b ≠ x → s.heap.get? b = some o → h'.get? b = some o) → Q .none { s with heap := h' }) :
    wpAny (model prog w) A (call (.builtin "Exception.__init__") [.ref x, v]) Q E s := by
  have g := Heap.get?_push_of_some { cls := .type "tuple", data := .seq #[v] } he
  refine wpAny_call (codeAny_call_builtin PySem.F.excBase_Exception.init.plain PySem.F.excBase_Exception.initEntry (x_check_init X hx he rfl ?_))
  change wpAny _ _ (Builtin.«BaseException.__init__» _) _ _ _
  unfold Builtin.«BaseException.__init__» newTuple Builtin.BaseException.bexcPut
  dsimp only
  rw [if_neg (by simp)]
  refine wpAny_bind (wpAny_newObj_type (wpAny_bind (wpAny_bind (wpAny_field g rfl h0 (wpAny_bind (wpAny_setField g rfl (Array.getElem?_eq_some_iff.mp h0).1 (wpAny_letGo (wpAny_pure (hQ _ ?_ fun b o q e => ?_)))))))) (by size_fits))
  · exact Heap.get?_update_self _ g rfl
  · exact (Heap.get?_update_other _ _ (Ne.symm q)).trans (Heap.get?_push_of_some _ e)
end

/-- the two statements of an exception's __init__ -/
inductive XB : List Stmt → Prop
  | mk {p1 : Pos} {ap p3 p4 q p5 p6 p7 p8 p9 : Pos} : (ap.endLine == q.line) = true → XB [.Expr (.Call (.Attribute (.Name ("Exception" : Str) p1) ("__init__" : Str) ap) [.Name ("self" : Str) p3, .Name ("why" : Str) p4] [] q) p5, .Assign [.Attribute (.Name ("self" : Str) p6) ("why" : Str) p7] (.Name ("why" : Str) p8) p9]
theorem xb_of {a b c d e f g : Str} {p1 ap p3 p4 q p5 p6 p7 p8 p9 : Pos} (h : (a == ("Exception" : Str) && b == ("__init__" : Str) && c == ("self" : Str) && d == ("why" : Str) && e == ("self" : Str) && f == ("why" : Str) && g == ("why" : Str) && (ap.endLine == q.line)) = true) :
    XB [.Expr (.Call (.Attribute (.Name a p1) b ap) [.Name c p3, .Name d p4] [] q) p5, .Assign [.Attribute (.Name e p6) f p7] (.Name g p8) p9] := by
  simp only [Bool.and_eq_true, beq_iff_eq] at h
  refine hide fun Gg kg => ?_
  obtain ⟨⟨⟨⟨⟨⟨⟨rfl, rfl⟩, rfl⟩, rfl⟩, rfl⟩, rfl⟩, rfl⟩, hl⟩ := h
  refine kg ?_; clear kg Gg
  exact .mk (beq_iff_eq.mpr hl)
noncomputable def xBodyP : (l : List Stmt) → Option (PLift (XB l))
  | [.Expr (.Call (.Attribute (.Name a _) b ap) [.Name c _, .Name d _] [] q) _, .Assign [.Attribute (.Name e _) f _] (.Name g _) _] =>
    whn (a == ("Exception" : Str) && b == ("__init__" : Str) && c == ("self" : Str) && d == ("why" : Str) && e == ("self" : Str) && f == ("why" : Str) && g == ("why" : Str) && (ap.endLine == q.line)) fun h => some ⟨xb_of h⟩
  | _ => none
noncomputable def xBody (l : List Stmt) : Bool := (xBodyP l).isSome
theorem xBody_of {l : List Stmt} (h : xBody l = true) : XB l := (Option.get _ h).down
/-- the __init__ of PhpFault -/
noncomputable def xInit (K : Frag) (fI : Addr) : Bool := match K.lookup fI with
  | some ⟨_, _, .func fd, _⟩ => fdOK K fd && (fd.params.args.map (·.arg) == [("self" : Str), ("why" : Str)]) && (fd.scope.names.lookup ("self" : Str) == some .local) && (fd.scope.names.lookup ("why" : Str) == some .local) && (fd.scope.names.lookup ("Exception" : Str) == some .globalImplicit) &&
      fd.defaults == .none && (match fd.body with | .stmts l => xBody l | _ => false)
  | _ => false
end Mine
end

section
open PySem PySem.W PyProof.Rows PySem.Calls Builtin Builtin.ObjectAttr
set_option maxRecDepth 100000
namespace Mine
section
variable {prog : Program} {w : World} {K : Frag} {mg mb : Str → Option Value} {A : Around} {E : Value → Shared → Prop} {s s' : Shared} {h h' : Heap} {R : Result → Shared → Prop} {C x : Addr}

/-- what is looked at of an exception class -/
structure ExcIs (K : Frag) (mg mb : Str → Option Value) (c : Nat) (C fI : Addr) : Prop where
  at_ : mg (dec c) = some (.ref C)
  keep : keepIn K (.ref C) = true
  cls : excOf K C = true
  init : findIn K (.ref C) "__init__" = some (some (.ref fI))
  fty : typeIn K (.ref fI) = some (.type "function")
  set : findIn K (.ref C) "__setattr__" = some (some (.builtin "object.__setattr__"))
  get : findIn K (.ref C) "__getattribute__" = some (some (.builtin "BaseException.__getattribute__"))
  hook : findIn K (.ref C) "__getattr__" = some none
  why : findIn K (.ref C) "why" = some none
  fn : xInit K fI = true
  exc : GlobV mg mb ("Exception" : Str) (.type "Exception")

/-- an exception with its message -/
structure ExcAt (C : Addr) (h : Heap) (e : Addr) (m : Str) (vs : Array Value) : Prop where
  it : ∃ dA od tk, h.get? e = some ⟨.ref C, some dA, .fields vs, #[]⟩ ∧ h.get? dA = some od ∧ (∀ ws, od.data ≠ .fields ws) ∧ lookIn "why" od = some (some (.str m tk)) ∧ dA ≠ e

theorem look_one {name : Str} {hs : Int} {tk : Tok} {v : Value} {n : Nat} : lookIn name (dictOf (putL name hs (.str name tk) v []) n) = some (some v) := by
  rw [lookIn_val (fun e he => ?_), valL_put (fun e he => by cases he), if_pos rfl]
  exact putL_keys (fun e he => by cases he) e he

theorem x_init {fI : Addr} {c : Nat} {h₀ : Heap} (Y : ExcIs K mg mb c C fI) (hA : AOK 1 A) (G₀ : Gd K mg mb h₀) (k₀ : ∀ b o, h₀.get? b = some o → s.heap.get? b = some o) (hx₀ : h₀.get? x = none) {m : Str} {tm : Tok} {t0 : Addr} {Q : Value → Shared → Prop} (he : s.heap.get? x = some ⟨.ref C, none, .fields #[.ref t0, .none, .none, .none, .bool false, .none], #[]⟩)
    (hQ : ∀ h' tk t1 dA od, h'.get? x = some ⟨.ref C, some dA, .fields #[.ref t1, .none, .none, .none, .bool false, .none], #[]⟩ → s.heap.get? dA = none → h'.get? dA = some od → (∀ ws, od.data ≠ .fields ws) → lookIn "why" od = some (some (.str m tm)) →
      (∀ b o, b ≠ x → s.heap.get? b = some o → h'.get? b = some o) → Q .none { s with heap := h', toks := tk }) :
    wpAny (model prog w) A (call (.ref fI) [.ref x, .str m tm]) Q E s := by
  have hf := Y.fn
  have G := G₀.keeps k₀
  have ne : ∀ b o, h₀.get? b = some o → b ≠ x := fun b o e q => by rw [q, hx₀] at e; exact nn e
  unfold xInit at hf
  split at hf
  · rename_i oc od fd sl hl
    simp only [Bool.and_eq_true, beq_iff_eq] at hf
    refine hide fun Gg kg => ?_
    obtain ⟨⟨⟨⟨⟨⟨hok, hpar⟩, k1⟩, k2⟩, k3⟩, hdf⟩, hbody⟩ := hf
    refine kg ?_; clear kg Gg
    have X := G.X
    have ho := X _ _ hl
    have H := fdOK_inv hok
    clear hok
    refine H.body.elim fun body hbb => ?_
    have hbd := bind_closed (fd := fd) (vals := [.ref x, .str m tm]) (dv := []) H.ps H.nd (by rw [hpar]; simp) (by simp) (by rw [hpar]; simp) (s := s) (fun M A E Q h => dflIn_seq X (by rw [hdf]; rfl) h)
    have hbd' : BindsTo s fd ⟨[.ref x, .str m tm], []⟩ ([("self" : Str), ("why" : Str)].zip [Value.ref x, .str m tm]) := by
      rw [hpar] at hbd
      simpa only [List.drop_nil, List.append_nil] using hbd
    refine wpAny_call ?_
    refine codeAny_call_function (Nat.lt_of_le_of_lt (Nat.le_add_right ..) hA.2.1) ho rfl H.co H.gen hbb (codeRec_of X H.code) (hbd' _ _ _ _ ?_)
    rw [H.clo]
    have hkind : ∀ y ∈ [("self" : Str), ("why" : Str)].zip [Value.ref x, .str m tm], fd.scope.names.lookup y.1 = some .local ∨ (fd.scope.names.lookup y.1 = some .cell ∧ ((cellsFrom (s.heap.objs.size + 1) fd.scope.names []).lookup y.1).isSome = true) := by
      intro y hy
      simp only [List.zip_cons_cons, List.zip_nil_right, List.mem_cons, List.not_mem_nil, or_false] at hy
      rcases hy with rfl | rfl
      · exact .inl k1
      · exact .inl k2
    refine wpAny_newFunctionEnv_cells H.kind hkind fun env henv s₁ y => ?_
    have hE : env = callEnvC fd s.heap.objs.size fI := henv
    refine ⟨G.nolimit.keeps y.toInCall.keep, codeAny_func ?_⟩
    have e1 : env.scope = fd.scope := by subst hE; rfl
    have e3 : env.globals = mainGlobals := by subst hE; exact H.gl
    have e4 : env.builtins = builtinsNs := by subst hE; exact H.bl
    have kd : ∀ z, env.kindOf z = fd.scope.names.lookup z := fun z => by unfold Env.kindOf; rw [e1]
    have hk : env.scope.kind = .function := by rw [e1]; exact H.kind
    have hkeep := y.toInCall.keep
    have hzn : (([("self" : Str), ("why" : Str)].zip [Value.ref x, .str m tm]).map (·.1)).Nodup := by
      show [("self" : Str), ("why" : Str)].Nodup
      decide
    have vs : VarAt env s₁.heap "self" (.ref x) := .inl ⟨(kd _).trans k1, _, y.toInCall.ns, bindL_at hzn (by simp) ((kd _).trans k1)⟩
    have vw : VarAt env s₁.heap "why" (.str m tm) := .inl ⟨(kd _).trans k2, _, y.toInCall.ns, bindL_at hzn (by simp) ((kd _).trans k2)⟩
    have G₁ := G.keeps hkeep
    have hL : s.heap.objs.size ≤ env.locals := y.toInCall.fresh
    have hxL : x ≠ env.locals := Nat.ne_of_lt (Nat.lt_of_lt_of_le (Heap.lt_size he) hL)
    rw [hbb] at hbody
    dsimp only at hbody
    cases xBody_of hbody with
    | mk hline =>
      refine hide fun Gg kg => ?_
      obtain ⟨hh, tt, rfl⟩ := y.toInCall.same
      refine kg ?_; clear kg Gg
      have he₁ := hkeep _ _ he
      refine wpAny_execs_cons (wpAny_Expr ?_ (notInter hk) rfl)
      rw [arm_eval_Call, attrBase (by rfl)]
      refine wpAny_bind (s_glob G₁ hk e3 e4 ((kd _).trans k3) Y.exc rfl (wpAny_bind (wpAny_standAt ?_)))
      refine s_methodCall (by simpa using hline) (by simp) (by rfl) fun pl => ?_
      refine x_getM G₁.X fun tk => ?_
      refine Calls.callWith_builtin (by rfl) (Calls.evalArgs_plain (Calls.spliced_cons (s_var hk vs rfl (Calls.spliced_cons (s_var hk vw rfl (Calls.spliced_nil ?_))))))
      show wpAny _ _ (call (.builtin "Exception.__init__") [.ref x, .str m tm]) _ _ _
      refine x_base (s := ⟨hh, s.gens, s.drawn, tk, s.os⟩) G₁.X Y.cls he₁ (t0 := t0) rfl fun h₂ hx₂ ho₂ => ?_
      dsimp only
      have hx₂' : h₂.get? x = some ⟨.ref C, none, .fields #[.ref hh.objs.size, .none, .none, .none, .bool false, .none], #[]⟩ := hx₂
      have ns₂ : h₂.Ns env.locals (bindL env.kindOf ([("self" : Str), ("why" : Str)].zip [Value.ref x, .str m tm]) fun _ => none) := by
        refine hide fun Gg kg => ?_
        obtain ⟨o, es, ep, ho, r⟩ := y.toInCall.ns
        refine kg ?_; clear kg Gg
        exact ⟨o, es, ep, ho₂ _ _ (Ne.symm hxL) ho, r⟩
      have vs₂ : VarAt env h₂ "self" (.ref x) := .inl ⟨(kd _).trans k1, _, ns₂, bindL_at hzn (by simp) ((kd _).trans k1)⟩
      have vw₂ : VarAt env h₂ "why" (.str m tm) := .inl ⟨(kd _).trans k2, _, ns₂, bindL_at hzn (by simp) ((kd _).trans k2)⟩
      have G₂ : Gd K mg mb h₂ := G₀.keeps fun b o e => ho₂ b o (ne b o e) (hkeep b o (k₀ b o e))
      have hsz : h₂.get? h₂.objs.size = none := get_size _
      refine wpAny_execs_cons (plainObj_wpAny_Assign_Attribute (s_var hk vw₂ rfl (s_var hk vs₂ rfl ?_)))
      have htk : takerIn K C ("why" : Str) = some none := by unfold takerIn; rw [Y.why]; rfl
      refine x_set (s := ⟨h₂, s.gens, s.drawn, tk, s.os⟩) G₂.X Y.cls Y.set htk hx₂' fun h₃ tk₃ tk' hx₃ hd₃ ho₃ => ?_
      refine wpAny_execs_nil ?_
      refine hQ h₃ tk₃ hh.objs.size h₂.objs.size _ hx₃ ?_ hd₃ (fun ws e => by cases e) look_one fun b o q e => ho₃ b o q (ho₂ b o q (hkeep b o e))
      cases z : s.heap.get? h₂.objs.size with
      | none => rfl
      | some o =>
        by_cases q : h₂.objs.size = x
        · rw [q] at hsz; rw [hx₂'] at hsz; cases hsz
        · have := ho₂ _ _ q (hkeep _ _ z); rw [hsz] at this; exact nn this
  · first | exact nn hf | exact nf hf

/-- an exception is made: its message is m -/
structure MadeX (C : Addr) (h h' : Heap) (e : Addr) (m : Str) : Prop where
  keeps : ∀ b o, h.get? b = some o → h'.get? b = some o
  new : h.get? e = none
  it : ∃ dA od tk t1, h'.get? e = some ⟨.ref C, some dA, .fields #[.ref t1, .none, .none, .none, .bool false, .none], #[]⟩ ∧ h.get? dA = none ∧ h'.get? dA = some od ∧ (∀ ws, od.data ≠ .fields ws) ∧ lookIn "why" od = some (some (.str m tk))

theorem exc_mk {fI : Addr} {c : Nat} (Y : ExcIs K mg mb c C fI) (hA : AOK 2 A) (G : Gd K mg mb s.heap) {m : Str} {tm : Tok} {Q : Value → Shared → Prop}
    (hQ : ∀ h' tk e, MadeX C s.heap h' e m → Q (.ref e) { s with heap := h', toks := tk }) : wpAny (model prog w) A (call (.ref C) [.str m tm]) Q E s := by
  refine hide fun Gg kg => ?_
  obtain ⟨hh, g, d, t, os⟩ := s
  refine kg ?_; clear kg Gg
  refine x_make G.X Y.cls Y.init Y.fty fun h' e M => ?_
  refine hide fun Gg kg => ?_
  obtain ⟨t0, he, ht0, -⟩ := M.there
  refine kg ?_; clear kg Gg
  refine x_init (s := ⟨h', g, d, t, os⟩) (h₀ := hh) Y (hA.under C _) G M.keeps M.new he fun h₂ tk t1 dA od a1 a2 a3 a4 a5 a6 => ⟨rfl, ?_⟩
  refine hQ h₂ tk e ⟨fun b o q => a6 b o (fun z => by rw [z, M.new] at q; cases q) (M.keeps b o q), M.new, dA, od, tm, t1, a1, ?_, a3, a4, a5⟩
  cases z : hh.get? dA with
  | none => rfl
  | some o => have := M.keeps _ _ z; rw [a2] at this; exact nn this
end
end Mine
end

section
open PySem PySem.W PyProof.Rows PySem.Calls
set_option maxRecDepth 100000
namespace Mine

noncomputable def XTr (base : Heap) (e : Addr) (vs : Array Value) (h : Heap) : Option Value → Prop
  | none => vs[1]? = some .none
  | some fl => ∃ T oT ts, vs[1]? = some (.ref T) ∧ base.get? T = none ∧ T ≠ e ∧ h.get? T = some oT ∧ oT.data = .fields ts ∧ ts[3]? = some fl
/-- an exception on its way: the frames, its class, its message -/
structure FlyX (base : Heap) (l : List Env) (C e : Addr) (m : Str) (fl : Option Value) (h : Heap) : Prop where
  stays : base.StaysIn h
  new : base.get? e = none
  fr : h.FunFrames base l
  it : ∃ oe vs dA od tk, h.get? e = some oe ∧ oe.cls = .ref C ∧ oe.data = .fields vs ∧ oe.dict = some dA ∧ h.get? dA = some od ∧ (∀ ws, od.data ≠ .fields ws) ∧ lookIn "why" od = some (some (.str m tk)) ∧ dA ∉ l.filterMap (·.frame) ∧ XTr base e vs h fl

/-- what the way of an exception leaves as it was: what lay in base; of every object its class and dict, and the data of all but records -/
structure Turn (base h h' : Heap) : Prop where
  stay : base.StaysIn h → base.StaysIn h'
  keep : ∀ b o, h.get? b = some o → ∃ o', h'.get? b = some o' ∧ o'.cls = o.cls ∧ o'.dict = o.dict ∧ ((∀ ws, o.data ≠ .fields ws) → o'.data = o.data)
section
variable {base h h₁ h₂ h' : Heap}
theorem Turn.tr (x : Turn base h h₁) (y : Turn base h₁ h₂) : Turn base h h₂ := by
  refine ⟨fun z => y.stay (x.stay z), fun b o g => ?_⟩
  obtain ⟨o₁, g₁, c₁, d₁, k₁⟩ := x.keep b o g
  obtain ⟨o₂, g₂, c₂, d₂, k₂⟩ := y.keep b o₁ g₁
  exact ⟨o₂, g₂, c₂.trans c₁, d₂.trans d₁, fun n => (k₂ fun ws q => n ws ((k₁ n).symm.trans q)).trans (k₁ n)⟩
theorem Turn.slots {S : List Addr} (x : Heap.SlotsOnly S h h') (n : ∀ b ∈ S, base.get? b = none) : Turn base h h' := by
  refine ⟨fun z b o g => (x.2.1 b fun q => ?_).trans (z b o g), fun b o g => ?_⟩
  · have := n b q; rw [g] at this; cases this
  · obtain ⟨sl, q⟩ := x.2.2 b o g
    exact ⟨_, q, rfl, rfl, fun _ => rfl⟩
theorem Turn.push (o : Obj) : Turn base h (h.push o) :=
  ⟨fun z b o' g => Heap.get?_push_of_some _ (z b o' g), fun _ o' g => ⟨o', Heap.get?_push_of_some _ g, rfl, rfl, fun _ => rfl⟩⟩
theorem Turn.put {a : Addr} {o : Obj} {vs : Array Value} {f : Array Value → Array Value} (n : base.get? a = none) (g : h.get? a = some o) (d : o.data = .fields vs) : Turn base h (h.update a (Obj.mapFields f)) := by
  refine ⟨fun z b o' q => (Heap.get?_update_other h _ fun e => ?_).trans (z b o' q), fun b o' q => ?_⟩
  · rw [← e, n] at q; cases q
  · by_cases e : a = b
    · subst e
      cases g.symm.trans q
      refine ⟨_, Heap.get?_update_self _ g (Obj.isFreed_of_fields (Obj.data_mapFields d f)), Obj.cls_mapFields _ _, ?_, fun no => (no vs d).elim⟩
      obtain ⟨a1, a2, a3, a4⟩ := o
      cases d; rfl
    · exact ⟨o', (Heap.get?_update_other h _ e).trans q, rfl, rfl, fun _ => rfl⟩
theorem Turn.upTo (x : Turn base h h') : h.UpToSlots h' := fun b o g n => by
  obtain ⟨⟨c, d, t, sl⟩, q, e1, e2, e3⟩ := x.keep b o g
  exact ⟨sl, q.trans (by rw [← e1, ← e2, ← e3 n])⟩
theorem FlyX.turn {l : List Env} {C e : Addr} {m : Str} {fl fl' : Option Value} {oe : Obj} {vs : Array Value} (F : FlyX base l C e m fl h) (x : Turn base h h') (g : h'.get? e = some oe) (d : oe.data = .fields vs) (t : XTr base e vs h' fl') : FlyX base l C e m fl' h' := by
  obtain ⟨o₀, _, dA, od, tk, g₀, c₀, _, d₀, gA, nA, w, ap, _⟩ := F.it
  obtain ⟨o₁, g₁, c₁, d₁, _⟩ := x.keep e o₀ g₀
  cases g.symm.trans g₁
  obtain ⟨o₂, g₂, _, _, k₂⟩ := x.keep dA od gA
  have e2 := k₂ nA
  refine ⟨x.stay F.stays, F.new, F.fr.of_keeps fun b o q n => ?_, oe, vs, dA, o₂, tk, g, c₁.trans c₀, d, d₁.trans d₀, g₂, fun ws q => nA ws (e2.symm.trans q), ?_, ap, t⟩
  · obtain ⟨o', q', _, _, k'⟩ := x.keep b o q
    exact ⟨o', q', k' n⟩
  · unfold lookIn at w ⊢
    rw [e2]; exact w
theorem get_put {a : Addr} {o : Obj} {vs : Array Value} (f : Array Value → Array Value) (g : h.get? a = some o) (d : o.data = .fields vs) : (h.update a (Obj.mapFields f)).get? a = some (o.mapFields f) :=
  Heap.get?_update_self _ g (Obj.isFreed_of_fields (Obj.data_mapFields d f))
/-- the place of its flight is written anew -/
theorem FlyX.put3 {l : List Env} {C e : Addr} {m : Str} {v : Value} (F : FlyX base l C e m (some v) h) : ∃ oe vs T oT ts, h.get? e = some oe ∧ oe.data = .fields vs ∧ vs[1]? = some (.ref T) ∧ h.get? T = some oT ∧ oT.data = .fields ts ∧ ts[3]? = some v ∧
    ∀ x, FlyX base l C e m (some x) (h.update T (Obj.mapFields (·.setIfInBounds 3 x))) ∧ h.UpToSlots (h.update T (Obj.mapFields (·.setIfInBounds 3 x))) := by
  obtain ⟨oe, vs, _, _, _, g, _, d, _, _, _, _, _, T, oT, ts, t1, t2, t3, t4, t5, t6⟩ := F.it
  refine ⟨oe, vs, T, oT, ts, g, d, t1, t4, t5, t6, fun x => ?_⟩
  have k : Turn base h (h.update T (Obj.mapFields (·.setIfInBounds 3 x))) := .put t2 t4 t5
  refine ⟨F.turn k ((Heap.get?_update_other h _ t3).trans g) d ⟨T, _, _, t1, t2, t3, get_put _ t4 t5, Obj.data_mapFields t5 _, ?_⟩, k.upTo⟩
  obtain ⟨z, _⟩ := Array.getElem?_eq_some_iff.mp t6
  simp [z]
end

section
variable {M : Model} {A : Around} {E : Value → Shared → Prop} {s : Shared} {base : Heap} {env : Env} {outer l : List Env} {L C e : Addr} {m : Str} {fl : Option Value} {Q : Unit → Shared → Prop}

/-- an entry for the frame is laid ahead of the others -/
theorem x_entry {head : Value} {more : Bool} (hfr : A.frames = some (env :: outer)) (hf : env.frame = some L) (F : FlyX base (env :: outer) C e m fl s.heap)
    (h : ∀ h', FlyX base (env :: outer) C e m (some (rawInt L)) h' → s.heap.UpToSlots h' → Q () { s with heap := h' }) :
    wpAny M A (do let a ← frameOf env; let pl ← entryPlaceOf L more; let b ← EntryCells.newEntry head a .none (rawInt L) .none pl; setField (.ref e) 1 b) Q E s := by
  obtain ⟨oe, vs, _, _, _, g, _, d, _, _, _, _, _, t⟩ := F.it
  have z : 1 < vs.size := by
    cases fl with
    | none => exact (Array.getElem?_eq_some_iff.mp t).1
    | some v => obtain ⟨_, _, _, q, _⟩ := t; exact (Array.getElem?_eq_some_iff.mp q).1
  refine wpAny_bind (wpAny_frameOf_fun hfr F.fr hf fun h₁ x₁ => wpAny_bind (wpAny_entryPlaceOf fun pl px => ?_))
  have k₁ : Turn base s.heap h₁ := .slots x₁ fun b q => (F.fr.mem q).1
  have g₁ : h₁.get? e = some oe := (x₁.2.1 e fun q => by
    obtain ⟨_, o, q1, q2⟩ := F.fr.mem q
    cases g.symm.trans q1
    exact q2 vs d).trans g
  unfold EntryCells.newEntry newFields
  refine wpAny_bind (wpAny_newObj_type ?_ (px.sizeOk5 _ _ _ _ _))
  generalize hv : ([head, .ref L, .none, rawInt L, .none] ++ (if pl.isEmpty then List.replicate 6 Value.none else pl)).toArray = nv
  have t3 : nv[3]? = some (rawInt L) := by
    rw [← hv]
    rcases px with rfl | ⟨_, _, _, _, _, _, _, rfl⟩ <;> rfl
  have g₂ := Heap.get?_push_of_some { cls := .type "traceback", dict := none, data := .fields nv } g₁
  have ne : h₁.objs.size ≠ e := Nat.ne_of_gt (Heap.lt_size g₁)
  refine wpAny_setField g₂ d z ?_
  have k := (k₁.tr (.push _)).tr (.put (f := (·.setIfInBounds 1 (Value.ref h₁.objs.size))) F.new g₂ d)
  exact h _ (F.turn k (get_put _ g₂ d) (Obj.data_mapFields d _) ⟨h₁.objs.size, _, nv, by simp [z], (k₁.stay F.stays).fresh, ne, (Heap.get?_update_other _ _ ne.symm).trans (Heap.get?_push_size h₁ rfl), rfl, t3⟩) k.upTo

/-- the frame is noted -/
theorem x_note (hfr : A.frames = some (env :: outer)) (hf : env.frame = some L) (F : FlyX base (env :: outer) C e m fl s.heap) (hfl : fl = none ∨ fl = some .none)
    (h : ∀ h', FlyX base (env :: outer) C e m (some (rawInt L)) h' → s.heap.UpToSlots h' → Q () { s with heap := h' }) : wpAny M A (noteFrame (.ref e) env) Q E s := by
  unfold noteFrame
  rw [hf]
  rcases hfl with rfl | rfl
  · obtain ⟨oe, vs, _, _, _, g, _, d, _, _, _, _, _, t⟩ := F.it
    exact wpAny_bind (wpAny_field g d t (x_entry (head := .none) (more := false) hfr hf F h))
  · obtain ⟨oe, vs, T, oT, ts, g, d, t1, t4, t5, t6, k⟩ := F.put3
    refine wpAny_bind (wpAny_field g d t1 (wpAny_bind (wpAny_field t4 t5 t6 (wpAny_bind (wpAny_setField t4 t5 (Array.getElem?_eq_some_iff.mp t6).1 ?_)))))
    obtain ⟨F', u⟩ := k .none
    exact x_entry (s := { s with heap := _ }) (head := .ref T) (more := true) hfr hf F' fun h' F'' u' => h h' F'' (u.trans u')

/-- it is no more under way -/
theorem x_land {v : Value} (F : FlyX base l C e m (some v) s.heap)
    (h : ∀ h', FlyX base l C e m (some .none) h' → s.heap.UpToSlots h' → Q () { s with heap := h' }) : wpAny M A (setFlight (.ref e) none) Q E s := by
  obtain ⟨oe, vs, T, oT, ts, g, d, t1, t4, t5, t6, k⟩ := F.put3
  unfold setFlight
  exact wpAny_bind (wpAny_field g d t1 (wpAny_setField t4 t5 (Array.getElem?_eq_some_iff.mp t6).1 (h _ (k .none).1 (k .none).2)))

/-- it leaves a frame -/
theorem x_leave (hfr : A.frames = some (env :: outer)) (hf : env.frame = some L) (F : FlyX base (env :: outer) C e m fl s.heap) (hfl : fl = none ∨ fl = some .none)
    (h : ∀ h', FlyX base outer C e m (some .none) h' → s.heap.UpToSlots h' → Q () { s with heap := h' }) : wpAny M A (leaving env (.ref e)) Q E s := by
  unfold leaving
  refine wpAny_bind (x_note hfr hf F hfl fun h₁ F₁ u₁ => x_land (s := { s with heap := h₁ }) F₁ fun h₂ F₂ u₂ => h h₂ ⟨F₂.stays, F₂.new, F₂.fr.2.2, ?_⟩ (u₁.trans u₂))
  obtain ⟨oe, vs, dA, od, tk, a1, a2, a3, a4, a5, a6, a7, a8, a9⟩ := F₂.it
  refine ⟨oe, vs, dA, od, tk, a1, a2, a3, a4, a5, a6, a7, fun q => a8 ?_, a9⟩
  rw [List.filterMap_cons, hf]
  exact List.mem_cons_of_mem _ q
end
end Mine
end

section
open PySem PySem.W PyProof.Rows PySem.Calls
set_option maxRecDepth 100000
set_option genSizeOf false
set_option genInjectivity false
namespace Mine
section
variable {M : Model} {A : Around} {E : Value → Shared → Prop} {s : Shared} {K : Frag} {env : Env} {C : Addr} {Q : Flow → Shared → Prop}
theorem x_raiseStmt {x : Sem Value} (hx : excOf K C = true) (hh : A.handled = none)
    (h : wpAny M A x (fun v s₁ => ∃ e dA t1, v = .ref e ∧ K.In s₁.heap ∧ s₁.heap.get? e = some ⟨.ref C, some dA, .fields #[.ref t1, .none, .none, .none, .bool false, .none], #[]⟩ ∧ E (.ref e) s₁) E s) :
    wpAny M A (raiseStmt env (some x) none) Q E s := by
  unfold raiseStmt
  refine wpAny_bind (wpAny_mono h (fun v s' z => ?_) fun _ _ z => z)
  refine hide fun Gg kg => ?_
  obtain ⟨nm, q, N, bs, sn, sub, ab, col, dd, k0, k1, k2, k3, k5, Pc, hK⟩ := excOf_obj hx
  obtain ⟨a, dA, t1, z1, z2, z3, z4⟩ := z
  obtain ⟨h', g, d, t, os⟩ := s'
  refine kg ?_; clear kg Gg
  cases z1
  have hC : h'.get? C = _ := z2 _ _ hK
  repeat (first | (with_reducible apply wpAny_loadPart_at z3; try dsimp only) | with_reducible refine x_below hC (show _ = true by decide +kernel) ?_ | with_reducible apply wpAny_loadPart_at hC | wp_step)
  exact wpAny_raiseNew_none hh z4
end

/-- statements that may raise -/
inductive XS where
  | pl (p : PS)
  | ifF (c : PE) (f : Nat) (l : List PE)
  | call (f : Nat) (l : List PE)
  | retF (f : Nat) (l : List PE)
/-- how they end: with a value, with an exception raised, with an exception made -/
inductive XO where
  | fine (d : D)
  | bad (m : Str)
  | made (m : Str)
section
variable (Γx : Nat → List D → Option XO) (Γ : Nat → List D → Option D) (Γm : Nat → D → List D → Option D) (isi : D → Nat → Option Bool) (kn : Nat → Bool) (fo : Nat → Nat → Bool)
  (Γk : Nat → List D → Option (List (Nat × D))) (Γu : Nat → Nat → List (Nat × D) → List D → Option (List (Nat × D)))
noncomputable def evXB : List XS → List (Nat × D) → Option XO
  | [], _ => some (.fine .none)
  | .pl p :: r, ρ => match evS Γ Γm isi kn fo Γk Γu p ρ none with
    | some (.next ρ' none) => evXB r ρ'
    | some (.ret d) => some (.fine d)
    | _ => none
  | .ifF c f l :: r, ρ => match evE Γ Γm isi kn fo c ρ with
    | some (.bool true) => (match evEs Γ Γm isi kn fo l ρ with
      | some ds => (match Γx f ds with
        | some (.made m) => some (.bad m)
        | _ => none)
      | none => none)
    | some (.bool false) => evXB r ρ
    | _ => none
  | .call f l :: r, ρ => match evEs Γ Γm isi kn fo l ρ with
    | some ds => (match Γx f ds with
      | some (.bad m) => some (.bad m)
      | some (.fine .none) => evXB r ρ
      | _ => none)
    | none => none
  | .retF f l :: _, ρ => match evEs Γ Γm isi kn fo l ρ with
    | some ds => (match Γx f ds with
      | some (.made m) => some (.made m)
      | _ => none)
    | none => none
end

inductive RepX : Scope → Stmt → XS → Prop
  | pl {sc st p} : RepS sc st p → RepX sc st (.pl p)
  | ifF {sc t pt g n gp l ps q p₁ p} : Rep sc t pt → isGlob sc g = true → nmOk g n = true → nameOk g = true → l.length ≤ 20 → RepL sc l ps → RepX sc (.If t [.Raise (some (.Call (.Name g gp) l [] q)) none p₁] [] p) (.ifF pt n ps)
  | call {sc g n gp l ps q p} : isGlob sc g = true → nmOk g n = true → nameOk g = true → l.length ≤ 20 → RepL sc l ps → RepX sc (.Expr (.Call (.Name g gp) l [] q) p) (.call n ps)
  | retF {sc g n gp l ps q p} : isGlob sc g = true → nmOk g n = true → nameOk g = true → l.length ≤ 20 → RepL sc l ps → RepX sc (.Return (some (.Call (.Name g gp) l [] q)) p) (.retF n ps)
inductive RepXB : Scope → List Stmt → List XS → Prop
  | nil {sc} : RepXB sc [] []
  | cons {sc st x l xl} : RepX sc st x → RepXB sc l xl → RepXB sc (st :: l) (x :: xl)

section
variable (prog : Program) (w : World) (K : Frag) (mg mb : Str → Option Value) (C : Addr)
noncomputable def XCallee (n f : Nat) (args : List D) (out : XO) : Prop :=
  ∃ v0, GlobV mg mb (dec f) v0 ∧ (∀ h, Gd K mg mb h → ∃ k, (k = Keeper.frame ∨ k = Keeper.machine ∨ k = Keeper.boundFrame) ∧ Looks (model prog w) h (keeperOf v0) k) ∧
    ∀ (base : Heap) (outer : List Env) (P : Addr → Prop) (A : Around) (s : Shared) (vs : List Value) (E Q : Value → Shared → Prop), AOK n A → A.frames = some outer → base.StaysIn s.heap → s.heap.FunFrames base outer → Gd K mg mb s.heap → FreshIn P s.heap → RelL prog w mg P s.heap vs args →
      (match out with
        | .fine d => ∀ v s', Post prog w mg P s d v s' → Q v s'
        | .bad m => ∀ h' t e, FlyX base outer C e m (some .none) h' → s.heap.UpToSlots h' → E (.ref e) { s with heap := h', toks := t }
        | .made m => ∀ h' t e, MadeX C s.heap h' e m → Q (.ref e) { s with heap := h', toks := t }) → wpAny (model prog w) A (call v0 vs) Q E s
end
end Mine
end

section
open PySem PySem.W PyProof.Rows PySem.Calls
set_option maxRecDepth 100000
namespace Mine

theorem MadeX.of {C e : Addr} {h₀ h h' : Heap} {m : Str} (M : MadeX C h h' e m) (k : ∀ b o, h₀.get? b = some o → h.get? b = some o) : MadeX C h₀ h' e m := by
  refine hide fun Gg kg => ?_
  obtain ⟨a, b, dA, od, tk, t1, c1, c2, c3⟩ := M
  refine kg ?_; clear kg Gg
  have nn : ∀ x, h.get? x = none → h₀.get? x = none := fun x e => by
    cases z : h₀.get? x with
    | none => rfl
    | some o => have := k x o z; rw [e] at this; cases this
  exact ⟨fun b o e => a b o (k b o e), nn _ b, dA, od, tk, t1, c1, nn _ c2, c3⟩

noncomputable def XOut (prog : Program) (w : World) (mg : Str → Option Value) (C : Addr) (h₀ : Heap) (env : Env) (P : Addr → Prop) (s : Shared) (out : XO) (f : Flow) (s' : Shared) : Prop := match out with
  | .fine d => ∃ P' W' : Addr → Prop, (∀ b, P' b → P b) ∧ Step env (fun _ => False) s W' s' ∧ (match f with
    | .ret v => RelV prog w mg (fun b => P' b ∨ W' b) s'.heap v d
    | .next => d = D.none
    | _ => False)
  | .made m => ∃ e h' t, f = .ret (.ref e) ∧ s' = { s with heap := h', toks := t } ∧ MadeX C h₀ h' e m
  | .bad _ => False
section
variable {prog : Program} {w : World} {K : Frag} {mg mb : Str → Option Value} {P P' W W' : Addr → Prop} {A : Around} {E : Value → Shared → Prop} {s s' : Shared} {env : Env} {sc : Scope} {h h' h₀ base : Heap} {ρ ρ' : List (Nat × D)} {outer : List Env} {C : Addr}
variable {Γx : Nat → List D → Option XO} {Γ : Nat → List D → Option D} {Γm : Nat → D → List D → Option D} {isi : D → Nat → Option Bool} {kn : Nat → Bool} {fo : Nat → Nat → Bool} {n : Nat} {Γk : Nat → List D → Option (List (Nat × D))} {Γu : Nat → Nat → List (Nat × D) → List D → Option (List (Nat × D))}

theorem St.frames (S : St prog w K mg mb h₀ env sc P W s ρ none) (hb : ∀ b o, base.get? b = some o → h₀.get? b = some o) (ho : h₀.FunFrames base outer) (hf : env.frame = some env.locals) : s.heap.FunFrames base (env :: outer) := by
  refine ⟨by rw [S.eo.kind]; decide, ?_, ho.of_keeps fun b o e _ => ⟨o, S.gk b o e, rfl⟩⟩
  refine hide fun Gg kg => ?_
  obtain ⟨m, o, es, ep, h1, h2, _⟩ := S.ns
  refine kg ?_; clear kg Gg
  refine ⟨env.locals, o, hf, ?_, h1, fun vs e => by rw [h2] at e; cases e⟩
  cases z : base.get? env.locals with
  | none => rfl
  | some o => have := hb _ _ z; rw [S.gn _ (.inl rfl)] at this; cases this

/-- a name's call whose callee may raise -/
theorem s_callX (O : Orc prog w K mg mb Γ Γm isi kn fo n) {out : XO} {ds : List D} {g : Str} {f : Nat} {l : List Expr} {ps : List PE} {gp q : Pos} {Q : Value → Shared → Prop} (hX : XCallee prog w K mg mb C n f ds out) (S : St prog w K mg mb h₀ env sc P W s ρ none) (hA : AOK n A) (hfr : A.frames = some (env :: outer))
    (hb : ∀ b o, base.get? b = some o → h₀.get? b = some o) (ho : h₀.FunFrames base outer) (hf : env.frame = some env.locals)
    (hg : isGlob sc g = true) (hn : nmOk g f = true) (hok : nameOk g = true) (r : RepL sc l ps) (hds : evEs Γ Γm isi kn fo ps ρ = some ds)
    (hQ : match out with
      | .fine d => ∀ v s', Post prog w mg P s d v s' → Q v s'
      | .bad m => ∀ h' t e, FlyX base (env :: outer) C e m (some .none) h' → s.heap.UpToSlots h' → E (.ref e) { s with heap := h', toks := t }
      | .made m => ∀ h' t e, MadeX C s.heap h' e m → Q (.ref e) { s with heap := h', toks := t }) :
    wpAny (model prog w) A (eval (.Call (.Name g gp) l [] q) env) Q E s := by
  refine hide fun Gg kg => ?_
  obtain ⟨v0, hgl, hk, hcall⟩ := hX
  refine kg ?_; clear kg Gg
  refine wpAny_Call_ofName (s_glob S.good S.eo.kind S.eo.glob S.eo.blt (S.eo.globs _ (isGlob_look hg)) ((nmOk.d hn) ▸ hgl) hok ?_)
  refine callWith_of (P := Gd K mg mb) (by rw [star_plain r]; rfl) hk (args_rep r ((mainL O r).1 env ρ P A s _ _ ds _ hA S.good S.fresh S.eo hds fun vs s₁ k rl => ⟨S.good.keeps (kp k), ?_⟩))
  have S₁ := S.keeps k
  refine hcall base (env :: outer) P A s₁ vs E Q hA hfr (fun b o e => S₁.gk b o (hb b o e)) (S₁.frames hb ho hf) S₁.good S₁.fresh rl ?_
  refine hide fun Gg kg => ?_
  obtain ⟨h₁, t₁, rfl, kk⟩ := id k
  refine kg ?_; clear kg Gg
  cases out with
  | fine d => exact fun v s' p => hQ v s' ⟨kTr k p.1, p.2⟩
  | bad m => exact fun h' t e F u => hQ h' t e F ((Heap.UpToSlots.of_keeps kk).trans u)
  | made m => exact fun h' t e M => hQ h' t e (M.of kk)

noncomputable def XErr (C : Addr) (base h₀ : Heap) (l : List Env) (s : Shared) (out : XO) (v : Value) (s' : Shared) : Prop := match out with
  | .bad m => ∃ e h' t fl, v = .ref e ∧ s' = { s with heap := h', toks := t } ∧ FlyX base l C e m fl h' ∧ (fl = none ∨ fl = some .none) ∧ h₀.UpToSlots h'
  | _ => False

theorem FlyX.made {l : List Env} {e : Addr} {m : Str} (M : MadeX C h₀ h' e m) (hf₀ : h₀.FunFrames base l) (hb : ∀ b o, base.get? b = some o → h₀.get? b = some o) (hfr : h'.FunFrames base l) : FlyX base l C e m none h' := by
  refine hide fun Gg kg => ?_
  obtain ⟨a, b, dA, od, tk, t1, c1, c2, c3, c4, c5⟩ := M
  refine kg ?_; clear kg Gg
  refine ⟨fun b o e => a b o (hb b o e), ?_, hfr, _, _, dA, od, tk, c1, rfl, rfl, rfl, c3, c4, c5, fun z => ?_, rfl⟩
  · cases z : base.get? e with
    | none => rfl
    | some o => have := hb _ _ z; rw [b] at this; cases this
  · refine hide fun Gg kg => ?_
    obtain ⟨_, o, ho, _⟩ := hf₀.mem z
    refine kg ?_; clear kg Gg
    rw [c2] at ho; cases ho

theorem XOut.tr {P₁ : Addr → Prop} {s₁ : Shared} {out : XO} {f : Flow} (hP : ∀ b, P₁ b → P b) (k : Step env (fun _ => False) s (fun _ => False) s₁) (x : XOut prog w mg C h₀ env P₁ s₁ out f s') : XOut prog w mg C h₀ env P s out f s' := by
  cases out with
  | fine d =>
    refine hide fun Gg kg => ?_
    obtain ⟨P', W', h1, h2, h3⟩ := x
    refine kg ?_; clear kg Gg
    exact ⟨P', W', fun b p => hP b (h1 b p), k.tr h2, h3⟩
  | made m =>
    refine hide fun Gg kg => ?_
    obtain ⟨e, h', t, h1, h2, h3⟩ := x
    obtain ⟨h'', t'', rfl⟩ := k.same
    refine kg ?_; clear kg Gg
    exact ⟨e, h', t, h1, h2, h3⟩
  | bad m => exact x
theorem XErr.tr {l : List Env} {s₁ : Shared} {out : XO} {v : Value} (k : Step env (fun _ => False) s (fun _ => False) s₁) (x : XErr C base h₀ l s₁ out v s') : XErr C base h₀ l s out v s' := by
  cases out with
  | bad m =>
    refine hide fun Gg kg => ?_
    obtain ⟨e, h', t, fl, h1, h2, h3⟩ := x
    obtain ⟨h'', t'', rfl⟩ := k.same
    refine kg ?_; clear kg Gg
    exact ⟨e, h', t, fl, h1, h2, h3⟩
  | fine d => exact x
  | made m => exact x
end
end Mine
end

section
open PySem PySem.W PyProof.Rows PySem.Calls
set_option maxRecDepth 100000
namespace Mine
section
variable {prog : Program} {w : World} {K : Frag} {mg mb : Str → Option Value} {P P' W W' : Addr → Prop} {A : Around} {E : Value → Shared → Prop} {s s' : Shared} {env : Env} {sc : Scope} {h h' h₀ base : Heap} {ρ ρ' : List (Nat × D)} {outer : List Env} {C : Addr}
variable {Γx : Nat → List D → Option XO} {Γ : Nat → List D → Option D} {Γm : Nat → D → List D → Option D} {isi : D → Nat → Option Bool} {kn : Nat → Bool} {fo : Nat → Nat → Bool} {n : Nat} {Γk : Nat → List D → Option (List (Nat × D))} {Γu : Nat → Nat → List (Nat × D) → List D → Option (List (Nat × D))}

section
variable {β : Type} {d : β} {G : Prop}
theorem iMd {o : Option XO} {f : Str → Option β} (h : (match o with | some (.made m) => f m | _ => none) = some d) (k : ∀ m, o = some (.made m) → f m = some d → G) : G := by
  cases o with
  | none => exact nn h
  | some x =>
    cases x with
    | made m => exact k m rfl h
    | _ => exact nn h
theorem iBF {o : Option XO} {f : Str → Option β} {z : Option β} (h : (match o with | some (.bad m) => f m | some (.fine .none) => z | _ => none) = some d) (k1 : ∀ m, o = some (.bad m) → f m = some d → G) (k2 : o = some (.fine .none) → z = some d → G) : G := by
  cases o with
  | none => exact nn h
  | some x =>
    cases x with
    | bad m => exact k1 m rfl h
    | fine y =>
      cases y with
      | none => exact k2 rfl h
      | _ => exact nn h
    | made _ => exact nn h
theorem iPl {o : Option Out} {f : List (Nat × D) → Option XO} {out : XO} (h : (match o with | some (.next ρ' none) => f ρ' | some (.ret d) => some (.fine d) | _ => none) = some out) (k1 : ∀ ρ', o = some (.next ρ' none) → f ρ' = some out → G) (k2 : ∀ d, o = some (.ret d) → .fine d = out → G) : G := by
  cases o with
  | none => exact nn h
  | some x =>
    cases x with
    | next ρ o =>
      cases o with
      | none => exact k1 ρ rfl h
      | some _ => exact nn h
    | ret d => exact k2 d rfl (Option.some.inj h)
    | cont _ _ => exact nn h
end
theorem St.noW (S : St prog w K mg mb h₀ env sc P W s ρ none) : W = fun _ => False := funext fun b => eq_false (S.own b)
theorem mainX (O : Orc2 prog w K mg mb Γ Γm isi kn fo Γk Γu n) (OX : ∀ f ds out, Γx f ds = some out → XCallee prog w K mg mb C n f ds out) (hC : excOf K C = true) (hA : AOK n A) (hfr : A.frames = some (env :: outer))
    (hb : ∀ b o, base.get? b = some o → h₀.get? b = some o) (ho : h₀.FunFrames base outer) (hf : env.frame = some env.locals) {l : List Stmt} {xl : List XS} (r : RepXB sc l xl) :
    ∀ {P : Addr → Prop} {s : Shared} {ρ : List (Nat × D)} {out : XO}, St prog w K mg mb h₀ env sc P (fun _ => False) s ρ none → evXB Γx Γ Γm isi kn fo Γk Γu xl ρ = some out →
      wpAny (model prog w) A (execs l env) (XOut prog w mg C h₀ env P s out) (XErr C base h₀ (env :: outer) s out) s := by
  induction r with
  | nil =>
    intro P s ρ out S ev
    have ev := Option.some.inj ev
    subst ev
    exact wpAny_execs_nil ⟨P, fun _ => False, fun _ p => p, .rfl', rfl⟩
  | cons rx rs ih =>
    intro P s ρ out S ev
    refine wpAny_execs_cons ?_
    cases rx with
    | pl rp =>
      apply iPl ev <;> clear ev
      · intro ρ' q ev
        refine wpAny_mono (mainS O rp _ _ _ _ _ _ _ _ _ hA S q) (fun f s₁ x => ?_) fun _ _ z => z.elim
        apply x.eN; clear x; intro P₁ W₁ h1 h2 h3
        have hW := h3.noW
        subst hW
        exact wpAny_mono (ih h3 ev) (fun f s' x => x.tr h1 h2) fun v s' x => x.tr h2
      · intro d q ev
        subst ev
        refine wpAny_mono (mainS O rp _ _ _ _ _ _ _ _ _ hA S q) (fun f s₁ x => ?_) fun _ _ z => z.elim
        apply x.eR; clear x; intro P₁ W₁ v h1 h2 h3
        exact ⟨P₁, W₁, h1, h2, h3⟩
    | ifF rt hg hn hok hlen rl =>
      apply iTF ev <;> clear ev
      · intro ht ev
        apply iL ev; clear ev; intro ds hds ev
        apply iMd ev; clear ev; intro m hm ev
        have ev := Option.some.inj ev
        subst ev
        refine wpAny_If ((mainE O.toOrc rt).2 env ρ P A s _ _ true hA S.good S.fresh S.eo ht fun s₁ k => ?_)
        rw [if_pos rfl]
        refine wpAny_execs_cons ?_
        rw [arm_exec_Raise]
        have S₁ := S.keeps k
        refine wpAny_bind (wpAny_standAt (x_raiseStmt hC hA.1 (wpAny_bind (s_callX O.toOrc (OX _ _ _ hm) S₁ hA hfr hb ho hf hg hn hok rl hds ?_))))
        intro h' tk e M
        refine wpAny_bind (wpAny_standAt (wpAny_pure ?_))
        clear hm hds ht rl hok hn hg ih rs
        refine hide fun Gg kg => ?_
        obtain ⟨h₁, t₁, rfl, kk⟩ := id k
        obtain ⟨dA, od, tk', t1, c1, c2⟩ := M.it
        refine kg ?_; clear kg Gg
        have Gk : ∀ b o, h₀.get? b = some o → h'.get? b = some o := fun b o e => M.keeps b o (S₁.gk b o e)
        have hfr' : h'.FunFrames base (env :: outer) := (S₁.frames hb ho hf).of_keeps fun b o e _ => ⟨o, M.keeps b o e, rfl⟩
        exact ⟨e, dA, t1, rfl, (S.gd.keeps Gk).X, c1, e, h', tk, none, rfl, rfl, FlyX.made M (S₁.frames hb ho hf) (fun b o e => S₁.gk b o (hb b o e)) hfr', .inl rfl, .of_keeps Gk⟩
      · intro ht ev
        refine wpAny_If ((mainE O.toOrc rt).2 env ρ P A s _ _ false hA S.good S.fresh S.eo ht fun s₁ k => ?_)
        rw [if_neg Bool.false_ne_true]
        exact wpAny_execs_nil (wpAny_mono (ih (S.keeps k) ev) (fun f s' x => x.tr (fun _ p => p) (.of k)) fun v s' x => XErr.tr (env := env) (.of k) x)
    | call hg hn hok hlen rl =>
      apply iL ev; clear ev; intro ds hds ev
      apply iBF ev <;> clear ev
      · intro m hm ev
        have ev := Option.some.inj ev
        subst ev
        refine wpAny_Expr (s_callX O.toOrc (OX _ _ _ hm) S hA hfr hb ho hf hg hn hok rl hds ?_) (notInter S.eo.kind) rfl
        exact fun h' t e F u => ⟨e, h', t, _, rfl, rfl, F, .inr rfl, (Heap.UpToSlots.of_keeps S.gk).trans u⟩
      · intro hm ev
        refine wpAny_Expr (s_callX O.toOrc (OX _ _ _ hm) S hA hfr hb ho hf hg hn hok rl hds ?_) (notInter S.eo.kind) rfl
        intro v s₁ p
        have rv := p.2
        apply RelV.eNone rv; clear rv
        exact wpAny_mono (ih (S.keeps p.1) ev) (fun f s' x => x.tr (fun _ p => p) (.of p.1)) fun v s' x => XErr.tr (env := env) (.of p.1) x
    | retF hg hn hok hlen rl =>
      apply iL ev; clear ev; intro ds hds ev
      apply iMd ev; clear ev; intro m hm ev
      have ev := Option.some.inj ev
      subst ev
      refine wpAny_Return_some (s_callX O.toOrc (OX _ _ _ hm) S hA hfr hb ho hf hg hn hok rl hds ?_)
      exact fun h' t e M => ⟨e, h', t, rfl, rfl, M.of S.gk⟩
end
end Mine
end

section
open PySem PySem.W PyProof.Rows PySem.Calls
set_option maxRecDepth 100000
namespace Mine

/-- a function whose body may raise -/
structure XFnIs (K : Frag) (v0 : Value) (fn : Fn) (xb : List XS) : Prop where
  fn : FnIs K v0 fn
  body : ∀ a oc od fd sl st, v0 = .ref a → K.lookup a = some ⟨oc, od, .func fd, sl⟩ → fd.body = .stmts st → RepXB fd.scope st xb
section
variable (Γx : Nat → List D → Option XO) (Γ : Nat → List D → Option D) (Γm : Nat → D → List D → Option D) (isi : D → Nat → Option Bool) (kn : Nat → Bool) (fo : Nat → Nat → Bool)
  (Γk : Nat → List D → Option (List (Nat × D))) (Γu : Nat → Nat → List (Nat × D) → List D → Option (List (Nat × D)))
noncomputable def runX (fn : Fn) (xb : List XS) (args : List D) : Option XO := match argD fn.ps fn.dfl args with
  | some ρ => evXB Γx Γ Γm isi kn fo Γk Γu xb ρ
  | none => none
end
section
variable {prog : Program} {w : World} {K : Frag} {mg mb : Str → Option Value} {P P' W W' : Addr → Prop} {A : Around} {E : Value → Shared → Prop} {s s' : Shared} {env : Env} {sc : Scope} {h h' h₀ base : Heap} {ρ ρ' : List (Nat × D)} {outer : List Env} {C : Addr}
variable {Γx : Nat → List D → Option XO} {Γ : Nat → List D → Option D} {Γm : Nat → D → List D → Option D} {isi : D → Nat → Option Bool} {kn : Nat → Bool} {fo : Nat → Nat → Bool} {n : Nat} {Γk : Nat → List D → Option (List (Nat × D))} {Γu : Nat → Nat → List (Nat × D) → List D → Option (List (Nat × D))}

theorem xfn_callee (O : Orc2 prog w K mg mb Γ Γm isi kn fo Γk Γu n) (OX : ∀ f ds out, Γx f ds = some out → XCallee prog w K mg mb C n f ds out) (hC : excOf K C = true) {f : Nat} {v0 : Value} {fn : Fn} {xb : List XS} {args : List D} {out : XO} (FI : XFnIs K v0 fn xb) (hg : GlobV mg mb (dec f) v0)
    (ev : runX Γx Γ Γm isi kn fo Γk Γu fn xb args = some out) : XCallee prog w K mg mb C (n + 1) f args out := by
  refine ⟨v0, hg, FI.fn.keep, fun base outer P A s vs E Q hA hfr hst hff G F rl hQ => ?_⟩
  unfold runX at ev
  split at ev
  · rename_i ρ hρ
    refine wpAny_call (fn_call FI.fn (own := none) (W := fun _ => False) (h₀ := s.heap) (nps := fn.ps) hA G (fun _ _ e => e) F rfl rl hρ (fun _ h => h.elim) (fun _ h => h) fun env sc st P₁ s₁ hfd hfe rep hsame hkeep hP₁ hWr S => ?_)
    refine hide fun Gg kg => ?_
    obtain ⟨a, oc, od, fd, sl, e1, e2, rfl, e3⟩ := hfd
    refine kg ?_; clear kg Gg
    have rx := FI.body _ _ _ _ _ _ e1 e2 e3
    have hfr' : (A.deeper env).frames = some (env :: outer) := Around.frames_deeper hfr
    refine wpAny_mono (mainX O OX hC (hA.deeper env) hfr' hst hff hfe rx S ev) (fun fl s' x => ?_) fun v s' x => ?_
    · cases out with
      | fine d =>
        have fin : ∀ (P' W' : Addr → Prop) (v : Value), (∀ b, P' b → P₁ b) → Step env (fun _ => False) s₁ W' s' → RelV prog w mg (fun b => P' b ∨ W' b) s'.heap v d → Post prog w mg P s d v s' := fun P' W' v h1 h2 h3 => by
          refine hide fun Gg kg => ?_
          obtain ⟨hh, tt, rfl⟩ := hsame
          obtain ⟨hh', tt', rfl⟩ := h2.same
          refine kg ?_; clear kg Gg
          refine ⟨⟨hh', tt', rfl, fun b o e => h2.kept b o (fun z => by rw [hWr b z] at e; cases e) (hkeep b o e)⟩, h3.mono fun b o p e => ⟨e, ?_⟩⟩
          rcases p with p | p
          · exact hP₁ b (h1 b p)
          · rcases h2.newW b p with z | z
            · exact z.elim
            · refine F b ?_
              cases q : s.heap.get? b with
              | none => rfl
              | some o => have := hkeep b o q; rw [z] at this; cases this
        refine hide fun Gg kg => ?_
        obtain ⟨P', W', h1, h2, h3⟩ := x
        refine kg ?_; clear kg Gg
        cases fl with
        | ret v => exact hQ v s' (fin P' W' v h1 h2 h3)
        | next =>
          cases h3
          exact hQ .none s' (fin P' W' .none h1 h2 .none)
        | _ => exact h3.elim
      | made m =>
        refine hide fun Gg kg => ?_
        obtain ⟨e, h', t, rfl, rfl, M⟩ := x
        obtain ⟨hh, tt, rfl⟩ := hsame
        refine kg ?_; clear kg Gg
        exact hQ h' t e M
      | bad m => exact x.elim
    · cases out with
      | bad m =>
        refine hide fun Gg kg => ?_
        obtain ⟨e, h', t, fl, rfl, rfl, F', hfl, u⟩ := x
        obtain ⟨hh, tt, rfl⟩ := hsame
        refine kg ?_; clear kg Gg
        refine x_leave hfr' hfe F' hfl fun h'' F'' u'' => ?_
        exact hQ h'' t e F'' (u.trans u'')
      | fine d => exact x.elim
      | made m => exact x.elim
  · cases ev

/-- the exception class itself -/
theorem exc_callee {c : Nat} {fI : Addr} (Y : ExcIs K mg mb c C fI) {m : Str} : XCallee prog w K mg mb C (n + 2) c [.str m] (.made m) := by
  refine ⟨.ref C, .inl Y.at_, fun h G => keeps_K Y.keep h G.X, fun base outer P A s vs E Q hA hfr hst hff G F rl hQ => ?_⟩
  cases rl with
  | cons r rl =>
    cases rl
    (apply RelV.eStr r; clear r; intro _)
    exact exc_mk Y (hA.le (by omega)) G hQ

/-- levels of raising calls -/
noncomputable def findX : List (Nat × (Fn × List XS)) → Nat → Option (Fn × List XS)
  | [], _ => none
  | p :: r, n => match Nat.beq p.1 n with
    | true => some p.2
    | false => findX r n
noncomputable def lvX (T : Tab) (c : Nat) (X : List (Nat × (Fn × List XS))) : Nat → Nat → List D → Option XO
  | 0, _, _ => none
  | n + 1, f, ds => match Nat.beq f c with
    | true => (match ds with
      | [.str m] => some (.made m)
      | _ => none)
    | false => match findX X f with
      | some p => runX (lvX T c X n) (lv T n).f (lv T n).m (isiD (isClsT T)) (knT T) (foT T) (lv T n).k (lv T n).u p.1 p.2 ds
      | none => none

theorem XCallee.le {f : Nat} {ds : List D} {out : XO} {m : Nat} (h : XCallee prog w K mg mb C n f ds out) (hm : n ≤ m) : XCallee prog w K mg mb C m f ds out := by
  refine hide fun Gg kg => ?_
  obtain ⟨v0, a, b, c⟩ := h
  refine kg ?_; clear kg Gg
  exact ⟨v0, a, b, fun base outer P A s vs E Q hA => c base outer P A s vs E Q (hA.le hm)⟩
theorem lvX_ok {T : Tab} (Y : TabOK K mg mb T) {c : Nat} {fI : Addr} (Z : ExcIs K mg mb c C fI) {X : List (Nat × (Fn × List XS))} (hX : ∀ f p, findX X f = some p → ∃ v0, GlobV mg mb (dec f) v0 ∧ XFnIs K v0 p.1 p.2) :
    ∀ n f ds out, lvX T c X n f ds = some out → XCallee prog w K mg mb C (2 * n) f ds out
  | 0, f, ds, out, e => by cases e
  | n + 1, f, ds, out, e => by
    simp only [lvX] at e
    split at e
    · rename_i hf
      have := Nat.eq_of_beq_eq_true hf
      subst this
      split at e
      · cases e; exact exc_callee (n := 2 * n) Z
      · cases e
    · split at e
      · rename_i p hp
        refine hide fun Gg kg => ?_
        obtain ⟨v0, hg, FI⟩ := hX _ _ hp
        refine kg ?_; clear kg Gg
        exact (xfn_callee (lv_ok Y n) (lvX_ok Y Z hX n) Z.cls FI hg e).le (by omega)
      · cases e
end
end Mine
end

section
open PySem PySem.W PyProof.Rows PySem.Calls
set_option maxRecDepth 100000
namespace Mine

/-- the function that catches: its body's form -/
structure ToldIs (K : Frag) (v0 : Value) (fn : Fn) (f c : Nat) (ps : List PE) : Prop where
  fn : FnIs K v0 fn
  body : ∀ a oc od fd sl st, v0 = .ref a → K.lookup a = some ⟨oc, od, .func fd, sl⟩ → fd.body = .stmts st →
    ∃ g gp l q p₁ cn cp x p₂ wy p₃ p₄ p₅ p₆ p₇ kd p₈ p₉, st = [.Try [.Expr (.Call (.Name g gp) l [] q) p₁] [.ExceptHandler (some (.Name cn cp)) (some x) [.Return (some (.Attribute (.Name x p₂) wy p₃)) p₄] p₅] [] [] p₆, .Return (some (.Constant (.str ("" : Str)) kd p₇)) p₈] ∧
      isGlob fd.scope g = true ∧ nmOk g f = true ∧ nameOk g = true ∧ RepL fd.scope l ps ∧ isGlob fd.scope cn = true ∧ nmOk cn c = true ∧ nameOk cn = true ∧ fd.scope.names.lookup x = some .local ∧ nameOk x = true ∧ wy = ("why" : Str) ∧ p₉ = p₈

section
variable {prog : Program} {w : World} {K : Frag} {mg mb : Str → Option Value} {P P' W W' : Addr → Prop} {A : Around} {E : Value → Shared → Prop} {s s' : Shared} {env : Env} {sc : Scope} {h h' h₀ base : Heap} {ρ ρ' : List (Nat × D)} {outer : List Env} {C : Addr}
variable {Γ : Nat → List D → Option D} {Γm : Nat → D → List D → Option D} {isi : D → Nat → Option Bool} {kn : Nat → Bool} {fo : Nat → Nat → Bool} {n : Nat} {Γk : Nat → List D → Option (List (Nat × D))} {Γu : Nat → Nat → List (Nat × D) → List D → Option (List (Nat × D))}

theorem stays_but {base h h' : Heap} {L : Addr} (k : base.StaysIn h) (hL : base.get? L = none) (hs : Heap.SameBut L h h') : base.StaysIn h' := fun b o e =>
  (hs.2 b (fun q => by rw [q, hL] at e; cases e)).trans (k b o e)

/-- the handler: the message is handed back -/
theorem told_handler {c : Nat} {fI : Addr} (Z : ExcIs K mg mb c C fI) (GB : Gd K mg mb base) (hA : AOK 1 A) (hfr : A.frames = some (env :: outer)) (hf : env.frame = some env.locals) (hk : env.scope.kind = .function) (hgl : env.globals = mainGlobals) (hbl : env.builtins = builtinsNs)
    {m : Str} {e : Addr} {cn x : Str} {cp p₂ p₃ p₄ p₅ : Pos} {mm : Str → Option Value} {Q : Flow → Shared → Prop} (F : FlyX base (env :: outer) C e m (some .none) s.heap) (hns : s.heap.Ns env.locals mm) (hbL : base.get? env.locals = none)
    (hcn : env.kindOf cn = some .globalImplicit) (hcc : nmOk cn c = true) (hco : nameOk cn = true) (hx : env.kindOf x = some .local) (hxo : nameOk x = true)
    (hQ : ∀ h' tk tk', base.StaysIn h' → (∀ b o, b ≠ env.locals → s.heap.get? b = some o → (∀ vs, o.data ≠ .fields vs) → ∃ sl, h'.get? b = some { o with slots := sl }) → Q (.ret (.str m tk')) { s with heap := h', toks := tk }) :
    wpAny (model prog w) A (noteFrame (.ref e) env) (fun _ s₂ => wpAny (model prog w) A (setFlight (.ref e) none) (fun _ s₃ =>
        wpAny (model prog w) A (handleBy (.ref e) env [.ExceptHandler (some (.Name cn cp)) (some x) [.Return (some (.Attribute (.Name x p₂) ("why" : Str) p₃)) p₄] p₅]) Q E s₃) E s₂) E s := by
  refine x_note hfr hf F (.inr rfl) fun h₁ F₁ u₁ => ?_
  refine x_land (s := { s with heap := h₁ }) F₁ fun h₂ F₂ u₂ => ?_
  have G₂ : Gd K mg mb h₂ := GB.keeps F₂.stays
  have hgv : GlobV mg mb cn (.ref C) := by rw [← nmOk.d hcc]; exact .inl Z.at_
  refine wpAny_handleBy_cons (codeAny_handlers_test (s_glob (s := { s with heap := h₂ }) G₂ hk hgl hbl hcn hgv hco ?_)) (by intro q; cases q)
  refine hide fun Gg kg => ?_
  obtain ⟨nm, q, N, bs, sn, sub, ab, col, dd, k0, k1, k2, k3, k5, Pc, hK⟩ := excOf_obj Z.cls
  obtain ⟨oe, vs, dA, od, tk, he, hcl, hd, hdi, hdA, hnf, hwhy, hap, htr⟩ := F₂.it
  refine kg ?_; clear kg Gg
  refine wpAny_excMatches_sub_self (G₂.X _ _ hK) he hcl (by simp) (codeAny_handlers_suite_as ?_)
  refine x_land (s := { s with heap := h₂ }) F₂ fun h₃ F₃ u₃ => ?_
  have u := (u₁.trans u₂).trans u₃
  have hns₃ : h₃.Ns env.locals mm := u.ns hns
  refine wpAny_storeName_local (s := { s with heap := h₃ }) hx hns₃ (fun h₄ hns₄ hs₄ => ?_) (by rw [hk]; rfl)
  have st₄ := stays_but F₃.stays hbL hs₄
  have G₄ : Gd K mg mb h₄ := GB.keeps st₄
  refine hide fun Gg kg => ?_
  obtain ⟨oe, vs, dA, od, tk, he, hcl, hd, hdi, hdA, hnf, hwhy, hap, htr⟩ := F₃.it
  obtain ⟨oL, es, ep, hLo, hLd, _⟩ := id hns₃
  refine kg ?_; clear kg Gg
  have heL : e ≠ env.locals := fun q => by
    rw [q, hLo] at he; cases he
    rw [hLd] at hd; cases hd
  have hdL : dA ≠ env.locals := fun q => hap (by rw [q, List.filterMap_cons, hf]; exact List.mem_cons_self ..)
  have he₄ : h₄.get? e = some oe := (hs₄.2 e heL).trans he
  have hdA₄ : h₄.get? dA = some od := (hs₄.2 dA hdL).trans hdA
  have vx : VarAt env h₄ x (.ref e) := .inl ⟨hx, _, hns₄, by simp⟩
  refine wpAny_execs_cons (wpAny_Return_some (Attribute_name (s_var (s := { s with heap := h₄, toks := _ }) hk vx hxo ?_)))
  refine hide fun Gg kg => ?_
  obtain ⟨oc, odi, oda, osl⟩ := oe
  refine kg ?_; clear kg Gg
  dsimp only at hcl hd hdi
  subst hcl hd hdi
  refine x_get (s := { s with heap := h₄, toks := _ }) G₄.X Z.cls Z.get Z.why Z.hook he₄ hdA₄ hwhy rfl fun tk₅ => ?_
  dsimp only
  refine wpAny_bind (wpAny_bindName (wpAny_storeName_local (s := { s with heap := h₄, toks := _ }) hx hns₄ (fun h₅ hns₅ hs₅ => ?_) (by rw [hk]; rfl)))
  unfold unbindBehindTheSuite
  refine wpAny_onRaise (wpAny_unbindName_local (s := { s with heap := h₅, toks := _ }) hx hns₅ (v := .none) (by simp) (by rw [hk]; rfl) fun h₆ u₆ hns₆ hs₆ => ?_)
  refine hQ h₆ _ tk (stays_but (stays_but st₄ hbL hs₅) hbL hs₆) fun b o nb e nf => ?_
  obtain ⟨sl, hsl⟩ := u b o e nf
  exact ⟨sl, (hs₆.2 b nb).trans ((hs₅.2 b nb).trans ((hs₄.2 b nb).trans hsl))⟩
end
end Mine
end

section
open PySem PySem.W PyProof.Rows PySem.Calls
set_option maxRecDepth 100000
namespace Mine
section
variable {prog : Program} {w : World} {K : Frag} {mg mb : Str → Option Value} {P P' W W' : Addr → Prop} {A : Around} {E : Value → Shared → Prop} {s s' : Shared} {env : Env} {sc : Scope} {h h' h₀ base : Heap} {ρ ρ' : List (Nat × D)} {outer : List Env} {C : Addr}
variable {Γ : Nat → List D → Option D} {Γm : Nat → D → List D → Option D} {isi : D → Nat → Option Bool} {kn : Nat → Bool} {fo : Nat → Nat → Bool} {n : Nat} {Γk : Nat → List D → Option (List (Nat × D))} {Γu : Nat → Nat → List (Nat × D) → List D → Option (List (Nat × D))}

/-- how a raising call's end is told -/
noncomputable def toldD : XO → Option Str
  | .fine .none => some ⟨#[]⟩
  | .bad m => some m
  | _ => none
theorem told_ok (O : Orc prog w K mg mb Γ Γm isi kn fo n) {c f : Nat} {fI : Addr} (Z : ExcIs K mg mb c C fI) {v0 : Value} {fn : Fn} {ps : List PE} (FI : ToldIs K v0 fn f c ps) {args ds : List D} {out : XO} {m : Str} (hρ : argD fn.ps fn.dfl args = some ρ) (hds : evEs Γ Γm isi kn fo ps ρ = some ds)
    (hX : XCallee prog w K mg mb C n f ds out) (hm : toldD out = some m) {vs : List Value} {Q : Value → Shared → Prop}
    (hA : AOK (n + 2) A) (hfr : A.frames = some outer) (hst : base.StaysIn s.heap) (hff : s.heap.FunFrames base outer) (GB : Gd K mg mb base) (F : FreshIn P s.heap) (rl : RelL prog w mg P s.heap vs args)
    (hQ : ∀ h' tk tk', base.StaysIn h' → s.heap.UpToSlots h' → Q (.str m tk') { s with heap := h', toks := tk }) : wpAny (model prog w) A (call v0 vs) Q E s := by
  have G : Gd K mg mb s.heap := GB.keeps hst
  refine wpAny_call (fn_call (n := n + 1) FI.fn (own := none) (W := fun _ => False) (h₀ := s.heap) (nps := fn.ps) hA G (fun _ _ e => e) F rfl rl hρ (fun _ h => h.elim) (fun _ h => h) fun env sc st P₁ s₁ hfd hfe rep hsame hkeep hP₁ hWr S => ?_)
  refine hide fun Gg kg => ?_
  obtain ⟨a, oc, od, fd, sl, e1, e2, rfl, e3⟩ := hfd
  obtain ⟨g, gp, l, q, p₁, cn, cp, x, p₂, wy, p₃, p₄, p₅, p₆, p₇, kd, p₈, p₉, rfl, hg, hgn, hgo, hrl, hc1, hc2, hc3, hx1, hx2, rfl, -⟩ := FI.body _ _ _ _ _ _ e1 e2 e3
  refine kg ?_; clear kg Gg
  have hfr' : (A.deeper env).frames = some (env :: outer) := Around.frames_deeper hfr
  have hA' : AOK (n + 1) (A.deeper env) := hA.deeper env
  have hL : s.heap.get? env.locals = none := hWr _ (.inl rfl)
  have hbL : base.get? env.locals = none := by
    cases z : base.get? env.locals with
    | none => rfl
    | some o => have := hst _ _ z; rw [hL] at this; cases this
  have kd' : ∀ y, env.kindOf y = fd.scope.names.lookup y := fun y => by unfold Env.kindOf; rw [S.scope]
  refine wpAny_execs_cons (wpAny_Try_except (wpAny_execs_cons (wpAny_Expr (s_callX O hX S (hA'.le (by omega)) hfr' hst hff hfe hg hgn hgo hrl hds ?_) (notInter S.eo.kind) rfl)))
  refine hide fun Gg kg => ?_
  obtain ⟨hh, tt, rfl⟩ := hsame
  refine kg ?_; clear kg Gg
  cases out with
  | fine d =>
    cases d <;> simp only [toldD, Option.some.injEq, reduceCtorEq] at hm
    subst hm
    intro v s₂ p
    obtain ⟨k, rv⟩ := p
    cases rv
    refine hide fun Gg kg => ?_
    obtain ⟨h₂, t₂, rfl, kk⟩ := k
    refine kg ?_; clear kg Gg
    refine wpAny_execs_nil (wpAny_execs_nil (wpAny_execs_cons (wpAny_Return_some (wpAny_Constant_str ?_))))
    exact hQ h₂ _ _ (fun b o e => kk b o (hkeep b o (hst b o e))) (.of_keeps fun b o e => kk b o (hkeep b o e))
  | made m => cases hm
  | bad m' =>
    cases hm
    intro h' t e F' u
    obtain ⟨mm, hns⟩ := S.ns
    refine told_handler (s := { s with heap := h', toks := t }) Z GB (hA'.le (by omega)) hfr' hfe S.eo.kind S.eo.glob S.eo.blt F' (mm := mm) ?_ hbL (S.eo.globs _ (isGlob_look hc1)) hc2 hc3 ((kd' _).trans hx1) hx2 fun h'' tk tk' a1 a2 => ?_
    · exact u.ns hns
    · exact hQ h'' tk tk' a1 fun b o e nf => by
        obtain ⟨sl, hsl⟩ := u b o (hkeep b o e) nf
        obtain ⟨sl', hsl'⟩ := a2 b _ (fun q => by rw [q, hL] at e; cases e) hsl nf
        exact ⟨sl', hsl'⟩
end
end Mine
end

section
open PySem PySem.W PyProof.Rows PySem.Calls
set_option maxRecDepth 100000
namespace Mine

abbrev OkX (sc : Scope) (st : Stmt) : Type := {p : XS // RepX sc st p}
noncomputable def gOk (sc : Scope) (g : Str) (l : List Expr) : Bool := isGlob sc g && nmOk g (enc g) && nameOk g && Nat.ble l.length 20
noncomputable def cX (sc : Scope) (st : Stmt) : OkX sc st := match st with
  | .If t [.Raise (some (.Call (.Name g _) l [] _)) none _] [] _ => (whn (gOk sc g l) fun h => (cP 40 sc t).bind fun x => (cL (cP 40 sc) l).map fun y =>
      (⟨.ifF x.1 (enc g) y.1, .ifF x.2 (aL (aL (aL h))) (aR (aL (aL h))) (aR (aL h)) (Nat.le_of_ble_eq_true (aR h)) y.2⟩ : OkX sc _)).getD ⟨.pl .bad, .pl .bad⟩
  | .Expr (.Call (.Name g _) l [] _) _ => (whn (gOk sc g l) fun h => (cL (cP 40 sc) l).map fun y =>
      (⟨.call (enc g) y.1, .call (aL (aL (aL h))) (aR (aL (aL h))) (aR (aL h)) (Nat.le_of_ble_eq_true (aR h)) y.2⟩ : OkX sc _)).getD ⟨.pl .bad, .pl .bad⟩
  | .Return (some (.Call (.Name g _) l [] _)) _ => (whn (gOk sc g l) fun h => (cL (cP 40 sc) l).map fun y =>
      (⟨.retF (enc g) y.1, .retF (aL (aL (aL h))) (aR (aL (aL h))) (aR (aL h)) (Nat.le_of_ble_eq_true (aR h)) y.2⟩ : OkX sc _)).getD ⟨.pl .bad, .pl .bad⟩
  | st => ⟨.pl (cS (cP 40) 20 sc st).1, .pl (cS (cP 40) 20 sc st).2⟩
noncomputable def cXB (sc : Scope) : List Stmt → List XS
  | [] => []
  | st :: l => (cX sc st).1 :: cXB sc l
theorem cXB_sound (sc : Scope) : ∀ l : List Stmt, RepXB sc l (cXB sc l)
  | [] => .nil
  | st :: l => .cons (cX sc st).2 (cXB_sound sc l)
end Mine
end

section
open PySem PySem.W PyProof.Rows PySem.Calls
set_option maxRecDepth 100000
namespace Mine
noncomputable def f_least : Fn := ⟨[], [], [.ret (.neg (.bin .Pow (.int 2) (.int 63)))]⟩
noncomputable def f_param_of : Fn := ⟨[1852793957], [], [.mk 1835099237 345232269677 [.item (.var 1852793957) (.int 1), .item (.var 1852793957) (.int 2), .item (.var 1852793957) (.int 3)], .fld 1835099237 115944243488102 (.item (.var 1852793957) (.int 4)), .fld 1835099237 127482044175978041098660195 (.item (.var 1852793957) (.int 5)), .fld 1835099237 31651020294550629 (.item (.var 1852793957) (.int 6)), .fld 1835099237 127482043888854851916819577 (.item (.var 1852793957) (.int 7)), .ite (.and [.cmp .Eq (.attr (.var 1835099237) 28258988067220596) (.tup [.str ⟨#[108, 105, 116]⟩, .none]), .cmp .IsNot (.attr (.var 1835099237) 1954115685) (.none)]) [.ite (.and [.cmp .NotIn (.str ⟨#[110, 117, 108, 108]⟩) (.attr (.var 1835099237) 1954115685), .cmp .NotIn (.str ⟨#[109, 105, 120, 101, 100]⟩) (.attr (.var 1835099237) 1954115685)]) [.fld 1835099237 1954115685 (.bin .Add (.attr (.var 1835099237) 1954115685) (.tup [.str ⟨#[110, 117, 108, 108]⟩]))] []] [], .ret (.var 1835099237)]⟩
noncomputable def b_put_flags_0 : List PS := [.ite (.cmp .In (.var 2003792484) (.var 439904986995)) [.fld 1718972003 559184469392749484405881 (.var 2003792484)] []]
noncomputable def f_put_flags : Fn := ⟨[1718972003, 439904986995], [], [.for 2003792484 (.tup [.str ⟨#[112, 117, 98, 108, 105, 99]⟩, .str ⟨#[112, 114, 111, 116, 101, 99, 116, 101, 100]⟩, .str ⟨#[112, 114, 105, 118, 97, 116, 101]⟩]) b_put_flags_0, .fld 1718972003 1945221618120340564323 (.cmp .In (.str ⟨#[115, 116, 97, 116, 105, 99]⟩) (.var 439904986995)), .fld 1718972003 439904986995 (.call 500186508389 [.comp (.var 2003792484) 2003792484 (.tup [.str ⟨#[97, 98, 115, 116, 114, 97, 99, 116]⟩, .str ⟨#[102, 105, 110, 97, 108]⟩]) [.cmp .In (.var 2003792484) (.var 439904986995)]])]⟩
noncomputable def f_func_of : Fn := ⟨[1852793957, 461379826547, 439904986995, 559184469392749484405881], [.str ⟨#[112, 117, 98, 108, 105, 99]⟩], [.mk 1835099237 1182101091 [.item (.var 1852793957) (.int 1), .comp (.call 8097879367761227622 [.var 482671223149]) 482671223149 (.item (.var 1852793957) (.int 2)) [], .item (.var 1852793957) (.int 4)], .fld 1835099237 1954115685 (.item (.var 1852793957) (.int 3)), .fld 1835099237 115944243488102 (.item (.var 1852793957) (.int 5)), .fld 1835099237 115944242767214 (.item (.var 1852793957) (.int 6)), .fld 1835099237 6515827 (.var 461379826547), .fld 1835099237 559184469392749484405881 (.var 559184469392749484405881), .mut 2074498830748715411315 1835099237 [.var 439904986995], .ret (.var 1835099237)]⟩
noncomputable def b_required_0 : List PS := [.asg 482671223149 (.item (.attr (.var 1718972003) 123563833126259) (.var 482854658917)), .ite (.and [.cmp .Is (.attr (.var 482671223149) 28258988067220596) (.none), .not (.attr (.var 482671223149) 127482044175978041098660195)]) [.asg 1835101817 (.bin .Add (.var 482854658917) (.int 1))] []]
noncomputable def f_required : Fn := ⟨[1718972003], [], [.asg 1835101817 (.int 0), .for 482854658917 (.call 491260897125 [.call 7103854 [.attr (.var 1718972003) 123563833126259]]) b_required_0, .ret (.var 1835101817)]⟩
noncomputable def f_full_name : Fn := ⟨[1718972003], [], [.ite (.or [.cmp .Is (.attr (.var 1718972003) 6515827) (.none), .cmp .Eq (.attr (.var 1718972003) 1851878757) (.str ⟨#[123, 99, 108, 111, 115, 117, 114, 101, 125]⟩)]) [.ret (.attr (.var 1718972003) 1851878757)] [], .ret (.bin .Add (.bin .Add (.attr (.attr (.var 1718972003) 6515827) 1851878757) (.str ⟨#[58, 58]⟩)) (.attr (.var 1718972003) 1851878757))]⟩
noncomputable def f_param_at : Fn := ⟨[1718972003, 482854658917], [], [.ite (.cmp .Lt (.var 482854658917) (.call 7103854 [.attr (.var 1718972003) 123563833126259])) [.ret (.item (.attr (.var 1718972003) 123563833126259) (.var 482854658917))] [], .ite (.and [.cmp .Gt (.call 7103854 [.attr (.var 1718972003) 123563833126259]) (.int 0), .attr (.item (.attr (.var 1718972003) 123563833126259) (.neg (.int 1))) 127482044175978041098660195]) [.ret (.item (.attr (.var 1718972003) 123563833126259) (.neg (.int 1)))] [], .ret (.none)]⟩
noncomputable def f_kind : Fn := ⟨[508440638821], [], [.ite (.cmp .Is (.var 508440638821) (.none)) [.ret (.str ⟨#[110, 117, 108, 108]⟩)] [], .ite (.isinst (.var 508440638821) 1651470188) [.ret (.str ⟨#[98, 111, 111, 108]⟩)] [], .ite (.isinst (.var 508440638821) 6909556) [.ret (.str ⟨#[105, 110, 116]⟩)] [], .ite (.isinst (.var 508440638821) 7566450) [.ret (.str ⟨#[115, 116, 114, 105, 110, 103]⟩)] [], .ite (.isinst (.var 508440638821) 4289138) [.ret (.str ⟨#[97, 114, 114, 97, 121]⟩)] [], .ite (.isinst (.var 508440638821) 5202538) [.ret (.str ⟨#[111, 98, 106, 101, 99, 116]⟩)] [], .bad]⟩
noncomputable def b_lower_0 : List PS := [.app 1835099237 (.ite (.cmp2 .LtE .LtE (.str ⟨#[65]⟩) (.var 1936287598) (.str ⟨#[90]⟩)) (.call 6514802 [.bin .Add (.call 7303780 [.var 1936287598]) (.int 32)]) (.var 1936287598))]
noncomputable def f_lower : Fn := ⟨[1952807028], [], [.newl 1835099237, .for 1936287598 (.var 1952807028) b_lower_0, .ret (.meth (.str ⟨#[]⟩) 1785686382 [.var 1835099237])]⟩
noncomputable def b_is_subclass_0 : List PS := [.ite (.cmp .Eq (.attr (.var 418263299685) 7038329) (.var 512071772150520803847525)) [.ret (.bool true)] [], .asg 418263299685 (.attr (.var 418263299685) 123563833388660)]
noncomputable def b_is_subclass_1 : List PS := [.ite (.cmp .Eq (.attr (.var 7302757) 7038329) (.var 512071772150520803847525)) [.ret (.bool true)] []]
noncomputable def f_is_subclass : Fn := ⟨[461379826547, 512071772150520803847525], [], [.asg 418263299685 (.var 461379826547), .whl (.cmp .IsNot (.var 418263299685) (.none)) b_is_subclass_0, .for 7302757 (.attr (.var 461379826547) 497886009785085891667315) b_is_subclass_1, .ret (.bool false)]⟩
noncomputable def f_instance_of : Fn := ⟨[508440638821, 512071772150520803847525], [], [.ret (.and [.isinst (.var 508440638821) 5202538, .call 127482043965417140747596659 [.attr (.var 508440638821) 6515827, .var 512071772150520803847525]])]⟩
noncomputable def f_type_text : Fn := ⟨[474080961907], [], [.ite (.and [.cmp .Eq (.call 7103854 [.var 474080961907]) (.int 2), .cmp .In (.str ⟨#[110, 117, 108, 108]⟩) (.var 474080961907)]) [.ite (.cmp .Eq (.item (.var 474080961907) (.int 0)) (.str ⟨#[110, 117, 108, 108]⟩)) [.ret (.bin .Add (.str ⟨#[63]⟩) (.item (.var 474080961907) (.int 1)))] [], .ret (.bin .Add (.str ⟨#[63]⟩) (.item (.var 474080961907) (.int 0)))] [], .ret (.meth (.str ⟨#[124]⟩) 1785686382 [.var 474080961907])]⟩
noncomputable def f_builtin_words : Fn := ⟨[], [], [.ret (.tup [.str ⟨#[105, 110, 116]⟩, .str ⟨#[102, 108, 111, 97, 116]⟩, .str ⟨#[115, 116, 114, 105, 110, 103]⟩, .str ⟨#[98, 111, 111, 108]⟩, .str ⟨#[97, 114, 114, 97, 121]⟩, .str ⟨#[99, 97, 108, 108, 97, 98, 108, 101]⟩, .str ⟨#[105, 116, 101, 114, 97, 98, 108, 101]⟩, .str ⟨#[111, 98, 106, 101, 99, 116]⟩, .str ⟨#[109, 105, 120, 101, 100]⟩, .str ⟨#[110, 117, 108, 108]⟩, .str ⟨#[118, 111, 105, 100]⟩, .str ⟨#[110, 101, 118, 101, 114]⟩, .str ⟨#[102, 97, 108, 115, 101]⟩, .str ⟨#[116, 114, 117, 101]⟩, .str ⟨#[115, 101, 108, 102]⟩, .str ⟨#[112, 97, 114, 101, 110, 116]⟩, .str ⟨#[115, 116, 97, 116, 105, 99]⟩])]⟩
noncomputable def f_is_of : Fn := ⟨[508440638821, 461379826547], [], [.ret (.and [.cmp .IsNot (.var 461379826547) (.none), .cmp .Eq (.call 1802071652 [.var 508440638821]) (.str ⟨#[111, 98, 106, 101, 99, 116]⟩), .call 127482043965417140747596659 [.attr (.var 508440638821) 6515827, .attr (.var 461379826547) 7038329]])]⟩
noncomputable def f_by_class : Fn := ⟨[1851878757, 508440638821, 1751478885, 126943688419683], [], [.ite (.cmp .Eq (.var 1851878757) (.str ⟨#[115, 101, 108, 102]⟩)) [.ret (.call 452907200358 [.var 508440638821, .var 1751478885])] [], .ite (.cmp .Eq (.var 1851878757) (.str ⟨#[112, 97, 114, 101, 110, 116]⟩)) [.ret (.and [.cmp .IsNot (.var 1751478885) (.none), .call 452907200358 [.var 508440638821, .attr (.var 1751478885) 123563833388660]])] [], .ite (.cmp .Eq (.var 1851878757) (.str ⟨#[115, 116, 97, 116, 105, 99]⟩)) [.ret (.call 452907200358 [.var 508440638821, .var 126943688419683])] [], .ret (.call 127458801134325555238236006 [.var 508440638821, .call 465726563698 [.var 1851878757]])]⟩
noncomputable def f_accepts_name : Fn := ⟨[1752134516, 1851878757, 508440638821, 1751478885, 126943688419683], [], [.ite (.cmp .In (.var 1851878757) (.tup [.str ⟨#[105, 110, 116]⟩, .str ⟨#[115, 116, 114, 105, 110, 103]⟩, .str ⟨#[98, 111, 111, 108]⟩, .str ⟨#[97, 114, 114, 97, 121]⟩, .str ⟨#[111, 98, 106, 101, 99, 116]⟩])) [.ret (.cmp .Eq (.call 1802071652 [.var 508440638821]) (.var 1851878757))] [], .ite (.cmp .Eq (.var 1851878757) (.str ⟨#[109, 105, 120, 101, 100]⟩)) [.ret (.bool true)] [], .ite (.cmp .In (.var 1851878757) (.tup [.str ⟨#[110, 117, 108, 108]⟩, .str ⟨#[118, 111, 105, 100]⟩])) [.ret (.cmp .Is (.var 508440638821) (.none))] [], .ite (.cmp .In (.var 1851878757) (.tup [.str ⟨#[116, 114, 117, 101]⟩, .str ⟨#[102, 97, 108, 115, 101]⟩])) [.ret (.and [.cmp .Eq (.call 1802071652 [.var 508440638821]) (.str ⟨#[98, 111, 111, 108]⟩), .cmp .Eq (.var 508440638821) (.cmp .Eq (.var 1851878757) (.str ⟨#[116, 114, 117, 101]⟩))])] [], .ite (.cmp .Eq (.var 1851878757) (.str ⟨#[110, 101, 118, 101, 114]⟩)) [.ret (.bool false)] [], .ite (.cmp .Eq (.var 1851878757) (.str ⟨#[99, 97, 108, 108, 97, 98, 108, 101]⟩)) [.ret (.call 127482042806877170193034341 [.var 1752134516, .var 508440638821])] [], .ite (.cmp .Eq (.var 1851878757) (.str ⟨#[105, 116, 101, 114, 97, 98, 108, 101]⟩)) [.ret (.or [.cmp .Eq (.call 1802071652 [.var 508440638821]) (.str ⟨#[97, 114, 114, 97, 121]⟩), .call 127458801134325555238236006 [.var 508440638821, .str ⟨#[116, 114, 97, 118, 101, 114, 115, 97, 98, 108, 101]⟩]])] [], .ret (.call 7095807568523654003 [.var 1851878757, .var 508440638821, .var 1751478885, .var 126943688419683])]⟩
noncomputable def b_accepts_0 : List PS := [.ite (.and [.cmp .NotEq (.var 1851878757) (.str ⟨#[102, 108, 111, 97, 116]⟩), .call 30140198994318503977397874021 [.var 1752134516, .var 1851878757, .var 508440638821, .var 1751478885, .var 126943688419683]]) [.ret (.bool true)] []]
noncomputable def f_accepts : Fn := ⟨[1752134516, 474080961907, 508440638821, 1751478885, 126943688419683], [], [.for 1851878757 (.var 474080961907) b_accepts_0, .ite (.cmp .In (.str ⟨#[102, 108, 111, 97, 116]⟩) (.var 474080961907)) [.bad] [], .ret (.bool false)]⟩
noncomputable def f_class_behind : Fn := ⟨[1752134516, 1851878757, 461379826547], [], [.ite (.and [.cmp .In (.var 1851878757) (.tup [.str ⟨#[115, 101, 108, 102]⟩, .str ⟨#[115, 116, 97, 116, 105, 99]⟩]), .cmp .IsNot (.var 461379826547) (.none)]) [.ret (.tup [.var 461379826547, .attr (.var 461379826547) 7038329])] [], .ite (.and [.cmp .Eq (.var 1851878757) (.str ⟨#[112, 97, 114, 101, 110, 116]⟩), .cmp .IsNot (.var 461379826547) (.none), .cmp .IsNot (.attr (.var 461379826547) 123563833388660) (.none)]) [.ret (.tup [.attr (.var 461379826547) 123563833388660, .attr (.attr (.var 461379826547) 123563833388660) 7038329])] [], .asg 7038329 (.call 465726563698 [.var 1851878757]), .ite (.and [.cmp .IsNot (.var 461379826547) (.none), .cmp .Eq (.var 7038329) (.attr (.var 461379826547) 7038329)]) [.ret (.tup [.var 461379826547, .var 7038329])] [], .ret (.tup [.callv (.meth (.var 1752134516) 1953460076 [.str ⟨#[99, 108, 97, 115, 115]⟩]) [.var 1752134516, .var 1851878757], .var 7038329])]⟩
noncomputable def f_key_behind : Fn := ⟨[1851878757, 461379826547], [], [.ite (.and [.cmp .Eq (.var 1851878757) (.str ⟨#[115, 101, 108, 102]⟩), .cmp .IsNot (.var 461379826547) (.none)]) [.ret (.attr (.var 461379826547) 7038329)] [], .ite (.and [.cmp .Eq (.var 1851878757) (.str ⟨#[112, 97, 114, 101, 110, 116]⟩), .cmp .IsNot (.var 461379826547) (.none), .cmp .IsNot (.attr (.var 461379826547) 123563833388660) (.none)]) [.ret (.attr (.attr (.var 461379826547) 123563833388660) 7038329)] [], .ret (.call 465726563698 [.var 1851878757])]⟩
noncomputable def b_class_covered_0 : List PS := [.ite (.or [.cmp .Eq (.var 478694368626) (.str ⟨#[111, 98, 106, 101, 99, 116]⟩), .and [.cmp .Eq (.var 478694368626) (.str ⟨#[105, 116, 101, 114, 97, 98, 108, 101]⟩), .var 2138793788924041540989430444223589], .and [.cmp .Eq (.var 478694368626) (.str ⟨#[99, 97, 108, 108, 97, 98, 108, 101]⟩), .cmp .Eq (.var 7038329) (.str ⟨#[99, 108, 111, 115, 117, 114, 101]⟩)]]) [.ret (.bool true)] [], .ite (.or [.cmp .In (.var 478694368626) (.tup [.str ⟨#[115, 101, 108, 102]⟩, .str ⟨#[112, 97, 114, 101, 110, 116]⟩]), .cmp .NotIn (.var 478694368626) (.call 7800697121921061570331437851763 [])]) [.asg 418263299685 (.call 507165080635685762330212 [.var 478694368626, .var 464589564653577051403123]), .ite (.or [.cmp .Eq (.var 7038329) (.var 418263299685), .and [.cmp .IsNot (.var 439956631140) (.none), .call 127482043965417140747596659 [.var 439956631140, .var 418263299685]]]) [.ret (.bool true)] []] []]
noncomputable def f_class_covered : Fn := ⟨[1752134516, 1851878757, 461379826547, 1650553701, 464589564653577051403123], [], [.asg2 439956631140 7038329 (.call 30770040160069420211637939812 [.var 1752134516, .var 1851878757, .var 461379826547]), .asg 2138793788924041540989430444223589 (.or [.cmp .Eq (.var 7038329) (.str ⟨#[116, 114, 97, 118, 101, 114, 115, 97, 98, 108, 101]⟩), .and [.cmp .IsNot (.var 439956631140) (.none), .call 127482043965417140747596659 [.var 439956631140, .str ⟨#[116, 114, 97, 118, 101, 114, 115, 97, 98, 108, 101]⟩]]]), .for 478694368626 (.var 1650553701) b_class_covered_0, .ret (.bool false)]⟩
noncomputable def f_name_covered : Fn := ⟨[1752134516, 1851878757, 461379826547, 1650553701, 464589564653577051403123], [], [.ite (.cmp .Eq (.var 1851878757) (.str ⟨#[110, 101, 118, 101, 114]⟩)) [.ret (.bool true)] [], .ite (.cmp .In (.str ⟨#[109, 105, 120, 101, 100]⟩) (.var 1650553701)) [.ret (.cmp .NotEq (.var 1851878757) (.str ⟨#[118, 111, 105, 100]⟩))] [], .ite (.and [.cmp .In (.var 1851878757) (.var 1650553701), .cmp .NotIn (.var 1851878757) (.tup [.str ⟨#[115, 101, 108, 102]⟩, .str ⟨#[112, 97, 114, 101, 110, 116]⟩])]) [.ret (.bool true)] [], .ite (.cmp .In (.var 1851878757) (.tup [.str ⟨#[116, 114, 117, 101]⟩, .str ⟨#[102, 97, 108, 115, 101]⟩])) [.ret (.cmp .In (.str ⟨#[98, 111, 111, 108]⟩) (.var 1650553701))] [], .ite (.cmp .Eq (.var 1851878757) (.str ⟨#[98, 111, 111, 108]⟩)) [.ret (.and [.cmp .In (.str ⟨#[116, 114, 117, 101]⟩) (.var 1650553701), .cmp .In (.str ⟨#[102, 97, 108, 115, 101]⟩) (.var 1650553701)])] [], .ite (.cmp .Eq (.var 1851878757) (.str ⟨#[97, 114, 114, 97, 121]⟩)) [.ret (.cmp .In (.str ⟨#[105, 116, 101, 114, 97, 98, 108, 101]⟩) (.var 1650553701))] [], .ite (.cmp .Eq (.var 1851878757) (.str ⟨#[105, 116, 101, 114, 97, 98, 108, 101]⟩)) [.ret (.and [.cmp .In (.str ⟨#[97, 114, 114, 97, 121]⟩) (.var 1650553701), .call 7877130280977771866709468276068 [.var 1752134516, .str ⟨#[84, 114, 97, 118, 101, 114, 115, 97, 98, 108, 101]⟩, .none, .var 1650553701, .var 464589564653577051403123]])] [], .ite (.and [.cmp .In (.var 1851878757) (.call 7800697121921061570331437851763 []), .cmp .NotIn (.var 1851878757) (.tup [.str ⟨#[115, 101, 108, 102]⟩, .str ⟨#[112, 97, 114, 101, 110, 116]⟩, .str ⟨#[115, 116, 97, 116, 105, 99]⟩])]) [.ret (.bool false)] [], .ret (.call 7877130280977771866709468276068 [.var 1752134516, .var 1851878757, .var 461379826547, .var 1650553701, .var 464589564653577051403123])]⟩
noncomputable def b_is_subtype_0 : List PS := [.ite (.not (.call 34161133492791820836261750116 [.var 1752134516, .var 1851878757, .var 2129833996441738113907, .var 1650553701, .var 464589564653577051403123])) [.ret (.bool false)] []]
noncomputable def f_is_subtype : Fn := ⟨[1752134516, 7566690, 2129833996441738113907, 1650553701, 464589564653577051403123], [], [.ite (.cmp .Is (.var 1650553701) (.none)) [.ret (.bool true)] [], .ite (.cmp .Is (.var 7566690) (.none)) [.ret (.bool false)] [], .for 1851878757 (.var 7566690) b_is_subtype_0, .ret (.bool true)]⟩
noncomputable def f_lit_words : Fn := ⟨[508440638821], [], [.asg 1936683636 (.call 1802071652 [.var 508440638821]), .ite (.cmp .Eq (.var 1936683636) (.str ⟨#[110, 117, 108, 108]⟩)) [.ret (.str ⟨#[110, 117, 108, 108]⟩)] [], .ite (.cmp .Eq (.var 1936683636) (.str ⟨#[98, 111, 111, 108]⟩)) [.ret (.ite (.var 508440638821) (.str ⟨#[116, 114, 117, 101]⟩) (.str ⟨#[102, 97, 108, 115, 101]⟩))] [], .ite (.cmp .Eq (.var 1936683636) (.str ⟨#[115, 116, 114, 105, 110, 103]⟩)) [.ret (.bin .Add (.bin .Add (.str ⟨#[39]⟩) (.upto (.var 508440638821) 10)) (.ite (.cmp .Gt (.call 7103854 [.var 508440638821]) (.int 10)) (.str ⟨#[46, 46, 46, 39]⟩) (.str ⟨#[39]⟩)))] [], .ret (.call 7566450 [.var 508440638821])]⟩
noncomputable def f_default_words : Fn := ⟨[1852793957], [], [.asg 1936683636 (.item (.var 1852793957) (.int 0)), .ite (.cmp .Eq (.var 1936683636) (.str ⟨#[108, 105, 116]⟩)) [.ret (.call 1999847163398487958643 [.item (.var 1852793957) (.int 1)])] [], .ite (.cmp .Eq (.var 1936683636) (.str ⟨#[97, 114, 114, 97, 121]⟩)) [.ret (.ite (.cmp .Eq (.call 7103854 [.item (.var 1852793957) (.int 1)]) (.int 0)) (.str ⟨#[91, 93]⟩) (.str ⟨#[91, 46, 46, 46, 93]⟩))] [], .ite (.cmp .Eq (.var 1936683636) (.str ⟨#[99, 111, 110, 115, 116]⟩)) [.ret (.item (.var 1852793957) (.int 1))] [], .ite (.and [.cmp .Eq (.var 1936683636) (.str ⟨#[99, 99, 111, 110, 115, 116]⟩), .cmp .Eq (.item (.item (.var 1852793957) (.int 1)) (.int 0)) (.str ⟨#[110, 97, 109, 101]⟩)]) [.ret (.bin .Add (.bin .Add (.item (.item (.var 1852793957) (.int 1)) (.int 1)) (.str ⟨#[58, 58]⟩)) (.item (.var 1852793957) (.int 2)))] [], .ite (.and [.cmp .Eq (.var 1936683636) (.str ⟨#[117, 110]⟩), .cmp .Eq (.item (.var 1852793957) (.int 1)) (.str ⟨#[45]⟩), .cmp .Eq (.item (.item (.var 1852793957) (.int 2)) (.int 0)) (.str ⟨#[108, 105, 116]⟩), .cmp .Eq (.call 1802071652 [.item (.item (.var 1852793957) (.int 2)) (.int 1)]) (.str ⟨#[105, 110, 116]⟩)]) [.ret (.call 7566450 [.neg (.item (.item (.var 1852793957) (.int 2)) (.int 1))])] [], .ret (.str ⟨#[60, 101, 120, 112, 114, 101, 115, 115, 105, 111, 110, 62]⟩)]⟩
noncomputable def f_param_words : Fn := ⟨[482671223149, 127482043675799206742614380], [], [.asg 512970876019 (.ite (.cmp .Is (.attr (.var 482671223149) 1954115685) (.none)) (.str ⟨#[]⟩) (.bin .Add (.call 2148572918086937966708 [.attr (.var 482671223149) 1954115685]) (.str ⟨#[32]⟩))), .aug 512970876019 (.bin .Add (.bin .Add (.bin .Add (.ite (.attr (.var 482671223149) 115944243488102) (.str ⟨#[38]⟩) (.str ⟨#[]⟩)) (.ite (.attr (.var 482671223149) 127482044175978041098660195) (.str ⟨#[46, 46, 46]⟩) (.str ⟨#[]⟩))) (.str ⟨#[36]⟩)) (.attr (.var 482671223149) 1851878757)), .ite (.and [.var 127482043675799206742614380, .cmp .IsNot (.attr (.var 482671223149) 28258988067220596) (.none)]) [.aug 512970876019 (.bin .Add (.str ⟨#[32, 61, 32]⟩) (.call 7954198008087623174670991385715 [.attr (.var 482671223149) 28258988067220596]))] [], .ret (.var 512970876019)]⟩
noncomputable def f_func_words : Fn := ⟨[1718972003], [], [.asg 465557353332 (.call 8243119442065778020 [.var 1718972003]), .asg 123563833126259 (.comp (.call 135859871294873586757690483 [.item (.attr (.var 1718972003) 123563833126259) (.var 105), .cmp .GtE (.var 105) (.var 465557353332)]) 105 (.call 491260897125 [.call 7103854 [.attr (.var 1718972003) 123563833126259]]) []), .asg 512970876019 (.bin .Add (.bin .Add (.bin .Add (.bin .Add (.ite (.attr (.var 1718972003) 115944243488102) (.str ⟨#[38, 32]⟩) (.str ⟨#[]⟩)) (.call 1890029152475426155877 [.var 1718972003])) (.str ⟨#[40]⟩)) (.meth (.str ⟨#[44, 32]⟩) 1785686382 [.var 123563833126259])) (.str ⟨#[41]⟩)), .ret (.ite (.cmp .Is (.attr (.var 1718972003) 1954115685) (.none)) (.var 512970876019) (.bin .Add (.bin .Add (.var 512970876019) (.str ⟨#[58, 32]⟩)) (.call 2148572918086937966708 [.attr (.var 1718972003) 1954115685])))]⟩
noncomputable def f_is_variadic : Fn := ⟨[1718972003], [], [.ret (.and [.cmp .Gt (.call 7103854 [.attr (.var 1718972003) 123563833126259]) (.int 0), .attr (.item (.attr (.var 1718972003) 123563833126259) (.neg (.int 1))) 127482044175978041098660195])]⟩
noncomputable def f_param_fits : Fn := ⟨[1752134516, 7566690, 2129833996441738113907, 1650553701, 464589564653577051403123], [], [.asg 418263299685 (.ite (.cmp .Is (.attr (.var 1650553701) 1954115685) (.none)) (.tup [.str ⟨#[109, 105, 120, 101, 100]⟩]) (.attr (.var 1650553701) 1954115685)), .ret (.and [.cmp .Eq (.attr (.var 7566690) 115944243488102) (.attr (.var 1650553701) 115944243488102), .call 497976734239910992113765 [.var 1752134516, .var 418263299685, .var 464589564653577051403123, .attr (.var 7566690) 1954115685, .var 2129833996441738113907]])]⟩
noncomputable def b_fits_as_0 : List PS := [.asg 418263299685 (.call 8097879367761224052 [.var 1650553701, .var 105]), .ite (.cmp .IsNot (.var 418263299685) (.none)) [.asg 7305070 (.call 8097879367761224052 [.var 7566690, .var 105]), .ite (.or [.cmp .Is (.var 7305070) (.none), .not (.call 530702622245599662666867 [.var 1752134516, .var 7305070, .var 2129833996441738113907, .var 418263299685, .var 464589564653577051403123])]) [.ret (.bool false)] []] []]
noncomputable def f_fits_as : Fn := ⟨[1752134516, 7566690, 2129833996441738113907, 1650553701, 464589564653577051403123], [], [.ite (.or [.cmp .Gt (.call 8243119442065778020 [.var 7566690]) (.call 8243119442065778020 [.var 1650553701]), .and [.attr (.var 1650553701) 115944243488102, .not (.attr (.var 7566690) 115944243488102)]]) [.ret (.bool false)] [], .ite (.and [.call 127482044175978041098660195 [.var 1650553701], .not (.call 127482044175978041098660195 [.var 7566690])]) [.ret (.bool false)] [], .for 105 (.call 491260897125 [.call 7168376 [.call 7103854 [.attr (.var 7566690) 123563833126259], .call 7103854 [.attr (.var 1650553701) 123563833126259]]]) b_fits_as_0, .ret (.call 497976734239910992113765 [.var 1752134516, .attr (.var 7566690) 1954115685, .var 2129833996441738113907, .attr (.var 1650553701) 1954115685, .var 464589564653577051403123])]⟩
noncomputable def f_method_fits : Fn := ⟨[1752134516, 7566690, 1650553701], [], [.ret (.call 28826396497240435 [.var 1752134516, .var 7566690, .attr (.var 7566690) 6515827, .var 1650553701, .attr (.var 1650553701) 6515827])]⟩
noncomputable def f_rank : Fn := ⟨[559184469392749484405881], [], [.ret (.meth (.tup [.str ⟨#[112, 117, 98, 108, 105, 99]⟩, .str ⟨#[112, 114, 111, 116, 101, 99, 116, 101, 100]⟩, .str ⟨#[112, 114, 105, 118, 97, 116, 101]⟩]) 452823639416 [.var 559184469392749484405881])]⟩
noncomputable def f__law_type : Fn := ⟨[113], [], [.ret (.item (.tup [.none, .tup [.str ⟨#[105, 110, 116]⟩], .tup [.str ⟨#[115, 116, 114, 105, 110, 103]⟩], .tup [.str ⟨#[105, 110, 116]⟩, .str ⟨#[115, 116, 114, 105, 110, 103]⟩], .tup [.str ⟨#[109, 105, 120, 101, 100]⟩], .tup [.str ⟨#[115, 101, 108, 102]⟩], .tup [.str ⟨#[80, 48]⟩], .tup [.str ⟨#[105, 110, 116]⟩, .str ⟨#[110, 117, 108, 108]⟩], .tup [.str ⟨#[98, 111, 111, 108]⟩], .tup [.str ⟨#[116, 114, 117, 101]⟩], .tup [.str ⟨#[116, 114, 117, 101]⟩, .str ⟨#[102, 97, 108, 115, 101]⟩], .tup [.str ⟨#[111, 98, 106, 101, 99, 116]⟩], .tup [.str ⟨#[118, 111, 105, 100]⟩], .tup [.str ⟨#[110, 101, 118, 101, 114]⟩]]) (.var 113))]⟩
noncomputable def f__law_default : Fn := ⟨[113], [], [.ret (.item (.tup [.none, .tup [.str ⟨#[108, 105, 116]⟩, .int 1], .tup [.str ⟨#[108, 105, 116]⟩, .none], .tup [.str ⟨#[108, 105, 116]⟩, .str ⟨#[116, 119, 101, 108, 118, 101, 32, 115, 105, 103, 110, 115]⟩], .tup [.str ⟨#[98, 105, 110]⟩, .str ⟨#[43]⟩, .tup [.str ⟨#[108, 105, 116]⟩, .int 1], .tup [.str ⟨#[108, 105, 116]⟩, .int 2]], .tup [.str ⟨#[108, 105, 116]⟩, .bool true], .tup [.str ⟨#[108, 105, 116]⟩, .str ⟨#[116, 101, 110, 32, 115, 105, 103, 110, 115, 46]⟩], .tup [.str ⟨#[97, 114, 114, 97, 121]⟩, .tup []], .tup [.str ⟨#[117, 110]⟩, .str ⟨#[45]⟩, .tup [.str ⟨#[108, 105, 116]⟩, .int 5]], .tup [.str ⟨#[99, 111, 110, 115, 116]⟩, .str ⟨#[71]⟩]]) (.var 113))]⟩
noncomputable def f__law_param : Fn := ⟨[1851878757, 1685217655, 29681726232032116], [], [.asg 2146842128540690902124 (.and [.var 29681726232032116, .cmp .Eq (.bin .Mod (.bin .FloorDiv (.var 1685217655) (.int 240)) (.int 2)) (.int 1)]), .asg 28258988067220596 (.ite (.var 2146842128540690902124) (.none) (.call 29532100193131275028415212660 [.bin .Mod (.bin .FloorDiv (.var 1685217655) (.int 12)) (.int 10)])), .ret (.tup [.str ⟨#[112, 97, 114, 97, 109]⟩, .var 1851878757, .call 1760250341483104268389 [.bin .Mod (.var 1685217655) (.int 12)], .var 28258988067220596, .cmp .Eq (.bin .Mod (.bin .FloorDiv (.var 1685217655) (.int 120)) (.int 2)) (.int 1), .var 2146842128540690902124, .str ⟨#[]⟩, .bool false])]⟩
noncomputable def f__law_method : Fn := ⟨[431415719795, 1851878757], [], [.asg2 1751474532 1835101817 (.tup [.item (.var 431415719795) (.int 0), .bin .Mod (.item (.var 431415719795) (.int 0)) (.int 4)]), .asg 123563833126259 (.call 500186508389 [.comp (.call 450624087419657110315373 [.item (.str ⟨#[97, 98, 99]⟩) (.var 107), .item (.var 431415719795) (.bin .Add (.int 1) (.var 107)), .cmp .Eq (.var 107) (.bin .Sub (.var 1835101817) (.int 1))]) 107 (.call 491260897125 [.var 1835101817]) []]), .asg 439904986995 (.bin .Add (.tup [.item (.tup [.str ⟨#[112, 117, 98, 108, 105, 99]⟩, .str ⟨#[112, 114, 111, 116, 101, 99, 116, 101, 100]⟩, .str ⟨#[112, 114, 105, 118, 97, 116, 101]⟩]) (.bin .Mod (.bin .FloorDiv (.var 1751474532) (.int 112)) (.int 3))]) (.ite (.cmp .Eq (.bin .Mod (.bin .FloorDiv (.var 1751474532) (.int 336)) (.int 2)) (.int 1)) (.tup [.str ⟨#[115, 116, 97, 116, 105, 99]⟩]) (.tup []))), .asg 439904986995 (.bin .Add (.bin .Add (.var 439904986995) (.ite (.cmp .Eq (.bin .Mod (.bin .FloorDiv (.var 1751474532) (.int 672)) (.int 2)) (.int 1)) (.tup [.str ⟨#[97, 98, 115, 116, 114, 97, 99, 116]⟩]) (.tup []))) (.ite (.cmp .Eq (.bin .Mod (.bin .FloorDiv (.var 1751474532) (.int 1344)) (.int 2)) (.int 1)) (.tup [.str ⟨#[102, 105, 110, 97, 108]⟩]) (.tup []))), .ret (.tup [.tup [.str ⟨#[102, 117, 110, 99]⟩, .var 1851878757, .var 123563833126259, .call 1760250341483104268389 [.bin .Mod (.bin .FloorDiv (.var 1751474532) (.int 4)) (.int 14)], .tup [], .cmp .Eq (.bin .Mod (.bin .FloorDiv (.var 1751474532) (.int 56)) (.int 2)) (.int 1), .bool false], .var 439904986995])]⟩
noncomputable def f__law_sorts : Fn := ⟨[474080961907, 115944243097463], [], [.asg 495791010931 (.dict [.str ⟨#[105, 110, 116]⟩, .str ⟨#[115, 116, 114, 105, 110, 103]⟩, .str ⟨#[116, 114, 117, 101]⟩, .str ⟨#[102, 97, 108, 115, 101]⟩, .str ⟨#[98, 111, 111, 108]⟩, .str ⟨#[110, 117, 108, 108]⟩, .str ⟨#[80, 48]⟩, .str ⟨#[115, 101, 108, 102]⟩, .str ⟨#[111, 98, 106, 101, 99, 116]⟩, .str ⟨#[109, 105, 120, 101, 100]⟩, .str ⟨#[118, 111, 105, 100]⟩, .str ⟨#[110, 101, 118, 101, 114]⟩] [.int 1, .int 2, .int 4, .int 8, .int 12, .int 16, .int 96, .ite (.var 115944243097463) (.int 64) (.int 96), .int 224, .int 511, .int 512, .int 0]), .ret (.call 7566701 [.comp (.item (.var 495791010931) (.var 1851878757)) 1851878757 (.var 474080961907) []])]⟩
noncomputable def f__law_own_type : Fn := ⟨[482671223149], [], [.asg 474080961907 (.item (.var 482671223149) (.int 2)), .ite (.and [.cmp .IsNot (.var 474080961907) (.none), .cmp .Eq (.item (.var 482671223149) (.int 3)) (.tup [.str ⟨#[108, 105, 116]⟩, .none]), .cmp .NotIn (.str ⟨#[110, 117, 108, 108]⟩) (.var 474080961907), .cmp .NotIn (.str ⟨#[109, 105, 120, 101, 100]⟩) (.var 474080961907)]) [.ret (.bin .Add (.var 474080961907) (.tup [.str ⟨#[110, 117, 108, 108]⟩]))] [], .ret (.var 474080961907)]⟩
noncomputable def f__law_is_within : Fn := ⟨[7566690, 497976734239910638940023, 1650553701, 127482042734827242638831479], [], [.ite (.or [.cmp .Is (.var 1650553701) (.none), .cmp .Is (.var 7566690) (.none)]) [.ret (.cmp .Is (.var 1650553701) (.none))] [], .ret (.cmp .Eq (.bin .BitAnd (.call 450624087419670230103155 [.var 7566690, .var 497976734239910638940023]) (.bin .Sub (.int 1023) (.call 450624087419670230103155 [.var 1650553701, .var 127482042734827242638831479]))) (.int 0))]⟩
noncomputable def f__law_least : Fn := ⟨[1852793957], [], [.asg 27988572849333604 (.comp (.bin .Add (.var 107) (.int 1)) 107 (.call 491260897125 [.call 7103854 [.item (.var 1852793957) (.int 2)]]) [.and [.cmp .Is (.item (.item (.item (.var 1852793957) (.int 2)) (.var 107)) (.int 3)) (.none), .not (.item (.item (.item (.var 1852793957) (.int 2)) (.var 107)) (.int 5))]]), .ret (.ite (.cmp .NotEq (.var 27988572849333604) (.lst [])) (.item (.var 27988572849333604) (.neg (.int 1))) (.int 0))]⟩
noncomputable def f__law_at : Fn := ⟨[1852793957, 107], [], [.ite (.cmp .Lt (.var 107) (.call 7103854 [.item (.var 1852793957) (.int 2)])) [.ret (.item (.item (.var 1852793957) (.int 2)) (.var 107))] [], .ret (.ite (.and [.cmp .NotEq (.item (.var 1852793957) (.int 2)) (.tup []), .item (.item (.item (.var 1852793957) (.int 2)) (.neg (.int 1))) (.int 5)]) (.item (.item (.var 1852793957) (.int 2)) (.neg (.int 1))) (.none))]⟩
noncomputable def b__law_fits_0 : List PS := [.asg2 418263299685 7305070 (.tup [.call 26859288657879412 [.var 1650553701, .var 107], .call 26859288657879412 [.var 7566690, .var 107]]), .ite (.or [.cmp .Is (.var 418263299685) (.none), .and [.cmp .GtE (.var 107) (.call 7103854 [.item (.var 7566690) (.int 2)]), .cmp .GtE (.var 107) (.call 7103854 [.item (.var 1650553701) (.int 2)])]]) [.cont] [], .asg 131260348654948 (.call 7560217649442404116145779601509 [.var 418263299685]), .ite (.or [.cmp .Is (.var 7305070) (.none), .cmp .NotEq (.item (.var 7305070) (.int 4)) (.item (.var 418263299685) (.int 4)), .not (.call 1935415718257144480842717468322158 [.ite (.cmp .Is (.var 131260348654948) (.none)) (.tup [.str ⟨#[109, 105, 120, 101, 100]⟩]) (.var 131260348654948), .bool false, .call 7560217649442404116145779601509 [.var 7305070], .bool true])]) [.ret (.bool false)] []]
noncomputable def f__law_fits : Fn := ⟨[7566690, 1650553701], [], [.ite (.or [.cmp .Gt (.call 450624087419639996445556 [.var 7566690]) (.call 450624087419639996445556 [.var 1650553701]), .and [.item (.var 1650553701) (.int 5), .not (.item (.var 7566690) (.int 5))]]) [.ret (.bool false)] [], .ite (.and [.cmp .NotEq (.item (.var 1650553701) (.int 2)) (.tup []), .item (.item (.item (.var 1650553701) (.int 2)) (.neg (.int 1))) (.int 5), .or [.cmp .Eq (.item (.var 7566690) (.int 2)) (.tup []), .not (.item (.item (.item (.var 7566690) (.int 2)) (.neg (.int 1))) (.int 5))]]) [.ret (.bool false)] [], .for 107 (.call 491260897125 [.int 4]) b__law_fits_0, .ret (.call 1935415718257144480842717468322158 [.item (.var 7566690) (.int 3), .bool true, .item (.var 1650553701) (.int 3), .bool false])]⟩
noncomputable def f__law_type_words : Fn := ⟨[474080961907], [], [.ite (.and [.cmp .Eq (.call 7103854 [.var 474080961907]) (.int 2), .cmp .In (.str ⟨#[110, 117, 108, 108]⟩) (.var 474080961907)]) [.ret (.bin .Add (.str ⟨#[63]⟩) (.item (.var 474080961907) (.int 0)))] [], .ret (.meth (.str ⟨#[124]⟩) 1785686382 [.var 474080961907])]⟩
noncomputable def b__law_words_0 : List PS := [.asg2 482671223149 474080961907 (.tup [.item (.item (.var 1852793957) (.int 2)) (.var 107), .call 7560217649442404116145779601509 [.item (.item (.var 1852793957) (.int 2)) (.var 107)]]), .asg 1885434484 (.ite (.cmp .Is (.var 474080961907) (.none)) (.str ⟨#[]⟩) (.bin .Add (.call 495466423873881045027413247195767923 [.var 474080961907]) (.str ⟨#[32]⟩))), .asg 1885434484 (.bin .Add (.bin .Add (.bin .Add (.bin .Add (.var 1885434484) (.ite (.item (.var 482671223149) (.int 4)) (.str ⟨#[38]⟩) (.str ⟨#[]⟩))) (.ite (.item (.var 482671223149) (.int 5)) (.str ⟨#[46, 46, 46]⟩) (.str ⟨#[]⟩))) (.str ⟨#[36]⟩)) (.item (.var 482671223149) (.int 1))), .ite (.and [.cmp .IsNot (.item (.var 482671223149) (.int 3)) (.none), .cmp .GtE (.var 107) (.call 450624087419639996445556 [.var 1852793957])]) [.asg 495673374574 (.mget [.str ⟨#[98, 105, 110]⟩, .str ⟨#[97, 114, 114, 97, 121]⟩, .str ⟨#[117, 110]⟩, .str ⟨#[99, 111, 110, 115, 116]⟩] [.str ⟨#[60, 101, 120, 112, 114, 101, 115, 115, 105, 111, 110, 62]⟩, .str ⟨#[91, 93]⟩, .str ⟨#[45, 53]⟩, .str ⟨#[71]⟩] (.item (.item (.var 482671223149) (.int 3)) (.int 0)) (.str ⟨#[]⟩)), .ite (.and [.cmp .Eq (.var 495673374574) (.str ⟨#[]⟩), .cmp .Is (.item (.item (.var 482671223149) (.int 3)) (.int 1)) (.bool true)]) [.asg 495673374574 (.str ⟨#[116, 114, 117, 101]⟩)] [], .ite (.cmp .Eq (.var 495673374574) (.str ⟨#[]⟩)) [.asg 495673374574 (.mget [.int 1, .none, .str ⟨#[116, 101, 110, 32, 115, 105, 103, 110, 115, 46]⟩] [.str ⟨#[49]⟩, .str ⟨#[110, 117, 108, 108]⟩, .str ⟨#[39, 116, 101, 110, 32, 115, 105, 103, 110, 115, 46, 39]⟩] (.item (.item (.var 482671223149) (.int 3)) (.int 1)) (.str ⟨#[39, 116, 119, 101, 108, 118, 101, 32, 115, 105, 103, 46, 46, 46, 39]⟩))] [], .asg 1885434484 (.bin .Add (.bin .Add (.var 1885434484) (.str ⟨#[32, 61, 32]⟩)) (.var 495673374574))] [], .app 482671228019 (.var 1885434484)]
noncomputable def f__law_words : Fn := ⟨[1852793957, 478745093490], [], [.newl 482671228019, .for 107 (.call 491260897125 [.call 7103854 [.item (.var 1852793957) (.int 2)]]) b__law_words_0, .asg 512970876019 (.bin .Add (.bin .Add (.bin .Add (.bin .Add (.bin .Add (.bin .Add (.ite (.item (.var 1852793957) (.int 5)) (.str ⟨#[38, 32]⟩) (.str ⟨#[]⟩)) (.var 478745093490)) (.str ⟨#[58, 58]⟩)) (.item (.var 1852793957) (.int 1))) (.str ⟨#[40]⟩)) (.meth (.str ⟨#[44, 32]⟩) 1785686382 [.var 482671228019])) (.str ⟨#[41]⟩)), .ret (.ite (.cmp .Is (.item (.var 1852793957) (.int 3)) (.none)) (.var 512970876019) (.bin .Add (.bin .Add (.var 512970876019) (.str ⟨#[58, 32]⟩)) (.call 495466423873881045027413247195767923 [.item (.var 1852793957) (.int 3)])))]⟩
noncomputable def f__law_fault : Fn := ⟨[7566690, 2129833996420263274355, 1650553701, 464589564653555576563571], [], [.asg2 127482042663051188320166772 1851878757 (.tup [.cmp .In (.str ⟨#[97, 98, 115, 116, 114, 97, 99, 116]⟩) (.var 464589564653555576563571), .bin .Add (.item (.var 1650553701) (.int 1)) (.str ⟨#[40, 41]⟩)]), .ite (.and [.cmp .Eq (.item (.var 464589564653555576563571) (.int 0)) (.str ⟨#[112, 114, 105, 118, 97, 116, 101]⟩), .not (.var 127482042663051188320166772)]) [.ret (.str ⟨#[]⟩)] [], .ite (.cmp .In (.str ⟨#[102, 105, 110, 97, 108]⟩) (.var 464589564653555576563571)) [.ret (.bin .Add (.str ⟨#[67, 97, 110, 110, 111, 116, 32, 111, 118, 101, 114, 114, 105, 100, 101, 32, 102, 105, 110, 97, 108, 32, 109, 101, 116, 104, 111, 100, 32, 80, 48, 58, 58]⟩) (.var 1851878757))] [], .ite (.cmp .NotEq (.cmp .In (.str ⟨#[115, 116, 97, 116, 105, 99]⟩) (.var 2129833996420263274355)) (.cmp .In (.str ⟨#[115, 116, 97, 116, 105, 99]⟩) (.var 464589564653555576563571))) [.ite (.cmp .In (.str ⟨#[115, 116, 97, 116, 105, 99]⟩) (.var 464589564653555576563571)) [.ret (.bin .Add (.bin .Add (.str ⟨#[67, 97, 110, 110, 111, 116, 32, 109, 97, 107, 101, 32, 115, 116, 97, 116, 105, 99, 32, 109, 101, 116, 104, 111, 100, 32, 80, 48, 58, 58]⟩) (.var 1851878757)) (.str ⟨#[32, 110, 111, 110, 32, 115, 116, 97, 116, 105, 99, 32, 105, 110, 32, 99, 108, 97, 115, 115, 32, 80, 49]⟩))] [], .ret (.bin .Add (.bin .Add (.str ⟨#[67, 97, 110, 110, 111, 116, 32, 109, 97, 107, 101, 32, 110, 111, 110, 32, 115, 116, 97, 116, 105, 99, 32, 109, 101, 116, 104, 111, 100, 32, 80, 48, 58, 58]⟩) (.var 1851878757)) (.str ⟨#[32, 115, 116, 97, 116, 105, 99, 32, 105, 110, 32, 99, 108, 97, 115, 115, 32, 80, 49]⟩))] [], .ite (.and [.cmp .In (.str ⟨#[97, 98, 115, 116, 114, 97, 99, 116]⟩) (.var 2129833996420263274355), .not (.var 127482042663051188320166772)]) [.ret (.bin .Add (.bin .Add (.str ⟨#[67, 97, 110, 110, 111, 116, 32, 109, 97, 107, 101, 32, 110, 111, 110, 32, 97, 98, 115, 116, 114, 97, 99, 116, 32, 109, 101, 116, 104, 111, 100, 32, 80, 48, 58, 58]⟩) (.var 1851878757)) (.str ⟨#[32, 97, 98, 115, 116, 114, 97, 99, 116, 32, 105, 110, 32, 99, 108, 97, 115, 115, 32, 80, 49]⟩))] [], .ite (.and [.cmp .Eq (.item (.var 1650553701) (.int 1)) (.str ⟨#[95, 95, 99, 111, 110, 115, 116, 114, 117, 99, 116]⟩), .not (.var 127482042663051188320166772)]) [.ret (.str ⟨#[]⟩)] [], .asg 1936024942 (.tup [.str ⟨#[112, 117, 98, 108, 105, 99]⟩, .str ⟨#[112, 114, 111, 116, 101, 99, 116, 101, 100]⟩, .str ⟨#[112, 114, 105, 118, 97, 116, 101]⟩]), .ite (.cmp .Gt (.meth (.var 1936024942) 452823639416 [.item (.var 2129833996420263274355) (.int 0)]) (.meth (.var 1936024942) 452823639416 [.item (.var 464589564653555576563571) (.int 0)])) [.asg 512970876019 (.bin .Add (.bin .Add (.bin .Add (.bin .Add (.str ⟨#[65, 99, 99, 101, 115, 115, 32, 108, 101, 118, 101, 108, 32, 116, 111, 32, 80, 49, 58, 58]⟩) (.var 1851878757)) (.str ⟨#[32, 109, 117, 115, 116, 32, 98, 101, 32]⟩)) (.item (.var 464589564653555576563571) (.int 0))) (.str ⟨#[32, 40, 97, 115, 32, 105, 110, 32, 99, 108, 97, 115, 115, 32, 80, 48, 41]⟩)), .ret (.ite (.cmp .Eq (.item (.var 464589564653555576563571) (.int 0)) (.str ⟨#[112, 117, 98, 108, 105, 99]⟩)) (.var 512970876019) (.bin .Add (.var 512970876019) (.str ⟨#[32, 111, 114, 32, 119, 101, 97, 107, 101, 114]⟩)))] [], .ite (.call 1760250341482868339827 [.var 7566690, .var 1650553701]) [.ret (.str ⟨#[]⟩)] [], .ret (.bin .Add (.bin .Add (.bin .Add (.str ⟨#[68, 101, 99, 108, 97, 114, 97, 116, 105, 111, 110, 32, 111, 102, 32]⟩) (.call 450624087419687409968243 [.var 7566690, .str ⟨#[80, 49]⟩])) (.str ⟨#[32, 109, 117, 115, 116, 32, 98, 101, 32, 99, 111, 109, 112, 97, 116, 105, 98, 108, 101, 32, 119, 105, 116, 104, 32]⟩)) (.call 450624087419687409968243 [.var 1650553701, .str ⟨#[80, 48]⟩]))]⟩
noncomputable def f__law_takes : Fn := ⟨[1752134516, 474080961907, 508440638821, 461379826547], [], [.ret (.or [.cmp .Is (.var 474080961907) (.none), .call 27412351295714419 [.var 1752134516, .var 474080961907, .var 508440638821, .var 461379826547, .var 461379826547]])]⟩
noncomputable def b__law_is_sound_0 : List PS := [.ite (.and [.call 450624087419674289726835 [.var 1752134516, .attr (.var 418263299685) 1954115685, .var 508440638821, .attr (.var 1650553701) 6515827], .not (.call 450624087419674289726835 [.var 1752134516, .attr (.var 7305070) 1954115685, .var 508440638821, .attr (.var 7566690) 6515827])]) [.ret (.bool false)] []]
noncomputable def b__law_is_sound_1 : List PS := [.asg2 418263299685 7305070 (.tup [.call 8097879367761224052 [.var 1650553701, .var 107], .call 8097879367761224052 [.var 7566690, .var 107]]), .ite (.and [.cmp .IsNot (.var 418263299685) (.none), .or [.cmp .Lt (.var 107) (.call 7103854 [.attr (.var 7566690) 123563833126259]), .cmp .Lt (.var 107) (.call 7103854 [.attr (.var 1650553701) 123563833126259])]]) [.for 508440638821 (.var 130160803538291) b__law_is_sound_0] []]
noncomputable def f__law_is_sound : Fn := ⟨[1752134516, 7566690, 1650553701, 130160803538291], [], [.for 107 (.call 491260897125 [.int 4]) b__law_is_sound_1, .asg 444150998387 (.comp (.var 508440638821) 508440638821 (.var 130160803538291) [.call 450624087419674289726835 [.var 1752134516, .attr (.var 7566690) 1954115685, .var 508440638821, .attr (.var 7566690) 6515827]]), .ret (.and [.cmp .LtE (.call 8243119442065778020 [.var 7566690]) (.call 8243119442065778020 [.var 1650553701]), .call 6384748 [.comp (.call 450624087419674289726835 [.var 1752134516, .attr (.var 1650553701) 1954115685, .var 508440638821, .attr (.var 1650553701) 6515827]) 508440638821 (.var 444150998387) []]])]⟩
noncomputable def f__law_class : Fn := ⟨[1752134516, 1851878757], [], [.ret (.meth (.attr (.var 1752134516) 27985188498924915) 6776180 [.meth (.var 1851878757) 465726563698 []])]⟩
noncomputable def f_access_words : Fn := ⟨[1851878757, 559184469392749484405881, 461379826547], [], [.asg 512970876019 (.bin .Add (.bin .Add (.bin .Add (.bin .Add (.bin .Add (.bin .Add (.str ⟨#[65, 99, 99, 101, 115, 115, 32, 108, 101, 118, 101, 108, 32, 116, 111, 32]⟩) (.var 1851878757)) (.str ⟨#[32, 109, 117, 115, 116, 32, 98, 101, 32]⟩)) (.var 559184469392749484405881)) (.str ⟨#[32, 40, 97, 115, 32, 105, 110, 32, 99, 108, 97, 115, 115, 32]⟩)) (.attr (.var 461379826547) 1851878757)) (.str ⟨#[41]⟩)), .ret (.call 20870203235585870514175175796 [.ite (.cmp .Eq (.var 559184469392749484405881) (.str ⟨#[112, 117, 98, 108, 105, 99]⟩)) (.var 512970876019) (.bin .Add (.var 512970876019) (.str ⟨#[32, 111, 114, 32, 119, 101, 97, 107, 101, 114]⟩))])]⟩
noncomputable def x_access_words : List XS := [.pl (.asg 512970876019 (.bin .Add (.bin .Add (.bin .Add (.bin .Add (.bin .Add (.bin .Add (.str ⟨#[65, 99, 99, 101, 115, 115, 32, 108, 101, 118, 101, 108, 32, 116, 111, 32]⟩) (.var 1851878757)) (.str ⟨#[32, 109, 117, 115, 116, 32, 98, 101, 32]⟩)) (.var 559184469392749484405881)) (.str ⟨#[32, 40, 97, 115, 32, 105, 110, 32, 99, 108, 97, 115, 115, 32]⟩)) (.attr (.var 461379826547) 1851878757)) (.str ⟨#[41]⟩))), .retF 20870203235585870514175175796 [.ite (.cmp .Eq (.var 559184469392749484405881) (.str ⟨#[112, 117, 98, 108, 105, 99]⟩)) (.var 512970876019) (.bin .Add (.var 512970876019) (.str ⟨#[32, 111, 114, 32, 119, 101, 97, 107, 101, 114]⟩))]]
noncomputable def f_check_kind : Fn := ⟨[7566690, 1650553701], [], [.asg 1851878757 (.bin .Add (.bin .Add (.bin .Add (.attr (.attr (.var 1650553701) 6515827) 1851878757) (.str ⟨#[58, 58]⟩)) (.attr (.var 7566690) 1851878757)) (.str ⟨#[40, 41]⟩)), .ite (.cmp .In (.str ⟨#[102, 105, 110, 97, 108]⟩) (.attr (.var 1650553701) 439904986995)) [.bad] [], .ite (.and [.attr (.var 1650553701) 1945221618120340564323, .not (.attr (.var 7566690) 1945221618120340564323)]) [.bad] [], .ite (.and [.attr (.var 7566690) 1945221618120340564323, .not (.attr (.var 1650553701) 1945221618120340564323)]) [.bad] [], .ite (.and [.cmp .In (.str ⟨#[97, 98, 115, 116, 114, 97, 99, 116]⟩) (.attr (.var 7566690) 439904986995), .cmp .NotIn (.str ⟨#[97, 98, 115, 116, 114, 97, 99, 116]⟩) (.attr (.var 1650553701) 439904986995)]) [.bad] []]⟩
noncomputable def x_check_kind : List XS := [.pl (.asg 1851878757 (.bin .Add (.bin .Add (.bin .Add (.attr (.attr (.var 1650553701) 6515827) 1851878757) (.str ⟨#[58, 58]⟩)) (.attr (.var 7566690) 1851878757)) (.str ⟨#[40, 41]⟩))), .ifF (.cmp .In (.str ⟨#[102, 105, 110, 97, 108]⟩) (.attr (.var 1650553701) 439904986995)) 20870203235585870514175175796 [.bin .Add (.str ⟨#[67, 97, 110, 110, 111, 116, 32, 111, 118, 101, 114, 114, 105, 100, 101, 32, 102, 105, 110, 97, 108, 32, 109, 101, 116, 104, 111, 100, 32]⟩) (.var 1851878757)], .ifF (.and [.attr (.var 1650553701) 1945221618120340564323, .not (.attr (.var 7566690) 1945221618120340564323)]) 20870203235585870514175175796 [.bin .Add (.bin .Add (.bin .Add (.str ⟨#[67, 97, 110, 110, 111, 116, 32, 109, 97, 107, 101, 32, 115, 116, 97, 116, 105, 99, 32, 109, 101, 116, 104, 111, 100, 32]⟩) (.var 1851878757)) (.str ⟨#[32, 110, 111, 110, 32, 115, 116, 97, 116, 105, 99, 32, 105, 110, 32, 99, 108, 97, 115, 115, 32]⟩)) (.attr (.attr (.var 7566690) 6515827) 1851878757)], .ifF (.and [.attr (.var 7566690) 1945221618120340564323, .not (.attr (.var 1650553701) 1945221618120340564323)]) 20870203235585870514175175796 [.bin .Add (.bin .Add (.bin .Add (.str ⟨#[67, 97, 110, 110, 111, 116, 32, 109, 97, 107, 101, 32, 110, 111, 110, 32, 115, 116, 97, 116, 105, 99, 32, 109, 101, 116, 104, 111, 100, 32]⟩) (.var 1851878757)) (.str ⟨#[32, 115, 116, 97, 116, 105, 99, 32, 105, 110, 32, 99, 108, 97, 115, 115, 32]⟩)) (.attr (.attr (.var 7566690) 6515827) 1851878757)], .ifF (.and [.cmp .In (.str ⟨#[97, 98, 115, 116, 114, 97, 99, 116]⟩) (.attr (.var 7566690) 439904986995), .cmp .NotIn (.str ⟨#[97, 98, 115, 116, 114, 97, 99, 116]⟩) (.attr (.var 1650553701) 439904986995)]) 20870203235585870514175175796 [.bin .Add (.bin .Add (.bin .Add (.str ⟨#[67, 97, 110, 110, 111, 116, 32, 109, 97, 107, 101, 32, 110, 111, 110, 32, 97, 98, 115, 116, 114, 97, 99, 116, 32, 109, 101, 116, 104, 111, 100, 32]⟩) (.var 1851878757)) (.str ⟨#[32, 97, 98, 115, 116, 114, 97, 99, 116, 32, 105, 110, 32, 99, 108, 97, 115, 115, 32]⟩)) (.attr (.attr (.var 7566690) 6515827) 1851878757)]]
noncomputable def f_check_signature : Fn := ⟨[1752134516, 7566690, 2129833996441738113907, 1650553701, 464589564653577051403123], [], [.ite (.not (.call 28826396497240435 [.var 1752134516, .var 7566690, .var 2129833996441738113907, .var 1650553701, .var 464589564653577051403123])) [.bad] []]⟩
noncomputable def x_check_signature : List XS := [.ifF (.not (.call 28826396497240435 [.var 1752134516, .var 7566690, .var 2129833996441738113907, .var 1650553701, .var 464589564653577051403123])) 20870203235585870514175175796 [.bin .Add (.bin .Add (.bin .Add (.str ⟨#[68, 101, 99, 108, 97, 114, 97, 116, 105, 111, 110, 32, 111, 102, 32]⟩) (.call 483847604615661271278707 [.var 7566690])) (.str ⟨#[32, 109, 117, 115, 116, 32, 98, 101, 32, 99, 111, 109, 112, 97, 116, 105, 98, 108, 101, 32, 119, 105, 116, 104, 32]⟩)) (.call 483847604615661271278707 [.var 1650553701])]]
noncomputable def f_check_method : Fn := ⟨[1752134516, 7566690, 1650553701], [], [.asg 127482042663051188320166772 (.cmp .In (.str ⟨#[97, 98, 115, 116, 114, 97, 99, 116]⟩) (.attr (.var 1650553701) 439904986995)), .ite (.and [.cmp .Eq (.attr (.var 1650553701) 559184469392749484405881) (.str ⟨#[112, 114, 105, 118, 97, 116, 101]⟩), .not (.var 127482042663051188320166772)]) [.ret0] [], .mut 469440048988838762737252 7566690 [.var 1650553701], .ite (.and [.cmp .Eq (.call 465726563698 [.attr (.var 1650553701) 1851878757]) (.str ⟨#[95, 95, 99, 111, 110, 115, 116, 114, 117, 99, 116]⟩), .not (.var 127482042663051188320166772)]) [.ret0] [], .ite (.cmp .Gt (.call 1918987883 [.attr (.var 7566690) 559184469392749484405881]) (.call 1918987883 [.attr (.var 1650553701) 559184469392749484405881])) [.bad] [], .mut 516154792406963438445235478434509413 1752134516 [.var 7566690, .attr (.var 7566690) 6515827, .var 1650553701, .attr (.var 1650553701) 6515827]]⟩
noncomputable def x_check_method : List XS := [.pl (.asg 127482042663051188320166772 (.cmp .In (.str ⟨#[97, 98, 115, 116, 114, 97, 99, 116]⟩) (.attr (.var 1650553701) 439904986995))), .pl (.ite (.and [.cmp .Eq (.attr (.var 1650553701) 559184469392749484405881) (.str ⟨#[112, 114, 105, 118, 97, 116, 101]⟩), .not (.var 127482042663051188320166772)]) [.ret0] []), .call 469440048988838762737252 [.var 7566690, .var 1650553701], .pl (.ite (.and [.cmp .Eq (.call 465726563698 [.attr (.var 1650553701) 1851878757]) (.str ⟨#[95, 95, 99, 111, 110, 115, 116, 114, 117, 99, 116]⟩), .not (.var 127482042663051188320166772)]) [.ret0] []), .ifF (.cmp .Gt (.call 1918987883 [.attr (.var 7566690) 559184469392749484405881]) (.call 1918987883 [.attr (.var 1650553701) 559184469392749484405881])) 30140198994534373397399495795 [.bin .Add (.bin .Add (.bin .Add (.attr (.attr (.var 7566690) 6515827) 1851878757) (.str ⟨#[58, 58]⟩)) (.attr (.var 7566690) 1851878757)) (.str ⟨#[40, 41]⟩), .attr (.var 1650553701) 559184469392749484405881, .attr (.var 1650553701) 6515827], .call 516154792406963438445235478434509413 [.var 1752134516, .var 7566690, .attr (.var 7566690) 6515827, .var 1650553701, .attr (.var 1650553701) 6515827]]
noncomputable def f__law_fault_told : Fn := ⟨[1752134516, 7566690, 1650553701], [], [.bad, .ret (.str ⟨#[]⟩)]⟩
noncomputable def b_law_0 : List PS := [.bad]
noncomputable def f_law : Fn := ⟨[126870958469236], [], [.asg 126870958469236 (.upto (.var 126870958469236) 63), .asg 1919907699 (.lst [.int 6, .int 3, .int 19, .int 0, .int 14, .int 1, .int 25, .int 0, .int 1]), .asg 431415719795 (.comp (.bin .Add (.item (.var 1919907699) (.var 107)) (.ite (.cmp .Lt (.var 107) (.call 7103854 [.var 126870958469236])) (.item (.var 126870958469236) (.var 107)) (.int 0))) 107 (.call 491260897125 [.call 7103854 [.var 1919907699]]) []), .asg 1851878757 (.ite (.cmp .Eq (.bin .Mod (.item (.var 431415719795) (.int 8)) (.int 6)) (.int 0)) (.str ⟨#[95, 95, 99, 111, 110, 115, 116, 114, 117, 99, 116]⟩) (.str ⟨#[109]⟩)), .asg2 8319664048651068517 2129833996420263274355 (.call 115359766379428938919735140 [.upto (.var 431415719795) 4, .var 1851878757]), .asg2 1814802986928085886053 464589564653555576563571 (.call 115359766379428938919735140 [.cut (.var 431415719795) 4 8, .var 1851878757]), .mk 1752134516 1215263604 [], .bad, .for 7038329 (.tup [.str ⟨#[80, 48]⟩, .str ⟨#[80, 49]⟩, .str ⟨#[79, 116, 104, 101, 114]⟩]) b_law_0, .bad, .asg 7566690 (.call 28839564598538086 [.var 8319664048651068517, .item (.attr (.var 1752134516) 27985188498924915) (.str ⟨#[112, 49]⟩), .var 2129833996420263274355]), .asg 1650553701 (.call 28839564598538086 [.var 1814802986928085886053, .item (.attr (.var 1752134516) 27985188498924915) (.str ⟨#[112, 48]⟩), .var 464589564653555576563571]), .ite (.or [.cmp .NotEq (.call 483847604615661271278707 [.var 7566690]) (.call 450624087419687409968243 [.var 8319664048651068517, .str ⟨#[80, 49]⟩]), .cmp .NotEq (.call 483847604615661271278707 [.var 1650553701]) (.call 450624087419687409968243 [.var 1814802986928085886053, .str ⟨#[80, 48]⟩])]) [.ret (.bool false)] [], .ite (.cmp .NotEq (.call 495466423873814489537076584908811364 [.var 1752134516, .var 7566690, .var 1650553701]) (.call 450624087419614160841844 [.var 8319664048651068517, .var 2129833996420263274355, .var 1814802986928085886053, .var 464589564653555576563571])) [.ret (.bool false)] [], .asg 115944242702708 (.call 132252020700420827779789939 [.var 1752134516, .var 7566690, .var 1650553701]), .ite (.cmp .NotEq (.var 115944242702708) (.call 1760250341482868339827 [.var 8319664048651068517, .var 1814802986928085886053])) [.ret (.bool false)] [], .asg 130160803538291 (.bin .Add (.lst [.int 1, .str ⟨#[120]⟩, .bool true, .bool false, .none, .call 4289138 []]) (.comp (.call 5202538 [.item (.attr (.var 1752134516) 27985188498924915) (.var 7038329), .int 1]) 7038329 (.tup [.str ⟨#[112, 48]⟩, .str ⟨#[112, 49]⟩, .str ⟨#[111, 116, 104, 101, 114]⟩]) [])), .ret (.or [.not (.var 115944242702708), .call 7560217649441970628274785971812 [.var 1752134516, .var 7566690, .var 1650553701, .var 130160803538291]])]⟩
noncomputable def i_Param : Fn := ⟨[1936026726, 1851878757, 474080961907, 28258988067220596], [], [.fld 1936026726 1851878757 (.var 1851878757), .fld 1936026726 1954115685 (.var 474080961907), .fld 1936026726 28258988067220596 (.var 28258988067220596), .fld 1936026726 115944243488102 (.bool false), .fld 1936026726 127482044175978041098660195 (.bool false), .fld 1936026726 31651020294550629 (.str ⟨#[]⟩), .fld 1936026726 127482043888854851916819577 (.bool false)]⟩
noncomputable def i_Func : Fn := ⟨[1936026726, 1851878757, 123563833126259, 1651467385], [], [.fld 1936026726 1851878757 (.var 1851878757), .fld 1936026726 123563833126259 (.var 123563833126259), .fld 1936026726 1651467385 (.var 1651467385), .fld 1936026726 1954115685 (.none), .fld 1936026726 115944243488102 (.bool false), .fld 1936026726 115944242767214 (.bool false), .fld 1936026726 1945221618120340564323 (.bool false), .fld 1936026726 559184469392749484405881 (.str ⟨#[112, 117, 98, 108, 105, 99]⟩), .fld 1936026726 439904986995 (.tup []), .fld 1936026726 6515827 (.none), .fld 1936026726 121364843951717 (.none), .fld 1936026726 1945221611459164270436 (.bool false), .fld 1936026726 32497584235438963 (.dict [] []), .fld 1936026726 1668244581 (.none)]⟩
noncomputable def i_Frame : Fn := ⟨[1936026726, 1718972003, 1952999795, 6515827, 126943688419683], [.none, .none, .none, .none], [.fld 1936026726 1718972003 (.var 1718972003), .fld 1936026726 1952999795 (.var 1952999795), .fld 1936026726 6515827 (.var 6515827), .fld 1936026726 126943688419683 (.var 126943688419683), .fld 1936026726 1986097779 (.dict [] []), .fld 1936026726 1634887539 (.lst [])]⟩
noncomputable def i_Host : Fn := ⟨[1936026726, 465625246068, 1718969708], [.int 12, .none], [.fld 1936026726 500085779571 (.dict [] []), .fld 1936026726 435777793139 (.dict [] []), .fld 1936026726 435811607411 (.dict [] []), .fld 1936026726 7630704 (.call 302566698341 []), .fld 1936026726 440005651813 (.attr (.var 1936026726) 7630704), .fld 1936026726 474316301683 (.lst []), .fld 1936026726 126896627347060 (.int 0), .fld 1936026726 482671228019 (.lst []), .fld 1936026726 27713630382682739 (.lst []), .fld 1936026726 431198598248 (.int 0), .fld 1936026726 465625246068 (.var 465625246068), .fld 1936026726 495806934644 (.int 0), .fld 1936026726 1718969708 (.var 1718969708), .fld 1936026726 29380524337030515 (.int 0), .fld 1936026726 27985188498924915 (.dict [] []), .fld 1936026726 1890029705619886272115 (.dict [] []), .fld 1936026726 1834257145426581812339 (.dict [] []), .fld 1936026726 1976699461532356398454293542495602 (.lst []), .fld 1936026726 1835099237 (.lst []), .fld 1936026726 1945221618120625054580 (.bool false)]⟩
noncomputable def i_Klass : Fn := ⟨[1936026726, 1851878757, 1936683636], [], [.fld 1936026726 1851878757 (.var 1851878757), .fld 1936026726 7038329 (.call 465726563698 [.var 1851878757]), .fld 1936026726 1936683636 (.var 1936683636), .fld 1936026726 439904986995 (.tup []), .fld 1936026726 123563833388660 (.none), .fld 1936026726 497886009785085891667315 (.lst []), .fld 1936026726 109330245579891 (.dict [] []), .fld 1936026726 482956243059 (.dict [] []), .fld 1936026726 478660552050 (.lst []), .fld 1936026726 32497584235438963 (.dict [] []), .fld 1936026726 35731471741495149139531363443 (.dict [] []), .fld 1936026726 30792323104203891 (.dict [] []), .fld 1936026726 27691627349372519 (.none), .fld 1936026726 426836714867 (.lst []), .fld 1936026726 1970496883 (.lst []), .fld 1936026726 469785863538 (.none), .fld 1936026726 109317377123698 (.none), .fld 1936026726 1945221610376732042596 (.bool false)]⟩
noncomputable def i_Arr : Fn := ⟨[1936026726, 1936292453], [.int 8], [.fld 1936026726 1945221614740234265956 (.bool true), .fld 1936026726 1801812339 (.lst []), .fld 1936026726 1986096243 (.lst []), .fld 1936026726 448377480307 (.lst []), .fld 1936026726 474148795507 (.lst []), .fld 1936026726 1936292453 (.var 1936292453), .fld 1936026726 427071729268 (.int 0), .fld 1936026726 1852143732 (.call 465557353332 []), .fld 1936026726 24948 (.int 0), .fld 1936026726 1945221618068800824676 (.bool false), .fld 1936026726 512735603571 (.dict [] [])]⟩
noncomputable def i_Obj : Fn := ⟨[1936026726, 6515827, 114767673191525], [], [.fld 1936026726 6515827 (.var 6515827), .fld 1936026726 114767673191525 (.var 114767673191525), .fld 1936026726 482956243059 (.dict [] []), .fld 1936026726 1684108385 (.none), .fld 1936026726 113753843721331 (.dict [] []), .fld 1936026726 29681726065570681 (.bool false), .fld 1936026726 8354663162188162358666413237604 (.bool false)]⟩
noncomputable def m_Host_tool : Fn := ⟨[1936026726, 1851878757], [], [.ite (.cmp .NotIn (.var 1851878757) (.attr (.var 1936026726) 500085779571)) [.bad] [], .ret (.item (.attr (.var 1936026726) 500085779571) (.var 1851878757))]⟩
noncomputable def T : Tab where
  fns := [(465557353332, f_least), (8097879367761227622, f_param_of), (2074498830748715411315, f_put_flags), (28839564598538086, f_func_of), (8243119442065778020, f_required), (1890029152475426155877, f_full_name), (8097879367761224052, f_param_at), (1802071652, f_kind), (465726563698, f_lower), (127482043965417140747596659, f_is_subclass), (127458801134325555238236006, f_instance_of), (2148572918086937966708, f_type_text), (7800697121921061570331437851763, f_builtin_words), (452907200358, f_is_of), (7095807568523654003, f_by_class), (30140198994318503977397874021, f_accepts_name), (27412351295714419, f_accepts), (30770040160069420211637939812, f_class_behind), (507165080635685762330212, f_key_behind), (7877130280977771866709468276068, f_class_covered), (34161133492791820836261750116, f_name_covered), (497976734239910992113765, f_is_subtype), (1999847163398487958643, f_lit_words), (7954198008087623174670991385715, f_default_words), (135859871294873586757690483, f_param_words), (483847604615661271278707, f_func_words), (127482044175978041098660195, f_is_variadic), (530702622245599662666867, f_param_fits), (28826396497240435, f_fits_as), (132252020700420827779789939, f_method_fits), (1918987883, f_rank), (1760250341483104268389, f__law_type), (29532100193131275028415212660, f__law_default), (450624087419657110315373, f__law_param), (115359766379428938919735140, f__law_method), (450624087419670230103155, f__law_sorts), (7560217649442404116145779601509, f__law_own_type), (1935415718257144480842717468322158, f__law_is_within), (450624087419639996445556, f__law_least), (26859288657879412, f__law_at), (1760250341482868339827, f__law_fits), (495466423873881045027413247195767923, f__law_type_words), (450624087419687409968243, f__law_words), (450624087419614160841844, f__law_fault), (450624087419674289726835, f__law_takes), (7560217649441970628274785971812, f__law_is_sound), (450624087419601459180403, f__law_class)]
  cls := [(345232269677, i_Param), (1182101091, i_Func), (302566698341, i_Frame), (1215263604, i_Host), (323940873075, i_Klass), (4289138, i_Arr), (5202538, i_Obj)]
  mth := [((1215263604, 1953460076), m_Host_tool)]
  flds := [(345232269677, [1851878757, 1954115685, 28258988067220596, 115944243488102, 127482044175978041098660195, 31651020294550629, 127482043888854851916819577]), (1182101091, [1851878757, 123563833126259, 1651467385, 1954115685, 115944243488102, 115944242767214, 1945221618120340564323, 559184469392749484405881, 439904986995, 6515827, 121364843951717, 1945221611459164270436, 32497584235438963, 1668244581]), (302566698341, [1718972003, 1952999795, 6515827, 126943688419683, 1986097779, 1634887539]), (1215263604, [500085779571, 435777793139, 435811607411, 7630704, 440005651813, 474316301683, 126896627347060, 482671228019, 27713630382682739, 431198598248, 465625246068, 495806934644, 1718969708, 29380524337030515, 27985188498924915, 1890029705619886272115, 1834257145426581812339, 1976699461532356398454293542495602, 1835099237, 1945221618120625054580]), (323940873075, [1851878757, 7038329, 1936683636, 439904986995, 123563833388660, 497886009785085891667315, 109330245579891, 482956243059, 478660552050, 32497584235438963, 35731471741495149139531363443, 30792323104203891, 27691627349372519, 426836714867, 1970496883, 469785863538, 109317377123698, 1945221610376732042596]), (4289138, [1945221614740234265956, 1801812339, 1986096243, 448377480307, 474148795507, 1936292453, 427071729268, 1852143732, 24948, 1945221618068800824676, 512735603571]), (5202538, [6515827, 114767673191525, 482956243059, 1684108385, 113753843721331, 29681726065570681, 8354663162188162358666413237604])]
  tops := [450624087419601459180403]
noncomputable def X : List (Nat × (Fn × List XS)) := [(30140198994534373397399495795, (f_access_words, x_access_words)), (469440048988838762737252, (f_check_kind, x_check_kind)), (516154792406963438445235478434509413, (f_check_signature, x_check_signature)), (30765223050532539336692887396, (f_check_method, x_check_method))]
noncomputable def nCF : Nat := 20870203235585870514175175796
end Mine
end

section
open PySem PySem.W PyProof.Rows PySem.Calls
set_option maxRecDepth 100000
namespace Mine

noncomputable def fnOfK (K : Frag) (a : Addr) (n : Nat) : Option Fn := match K.lookup a with
  | some ⟨_, _, .func fd, _⟩ => if fdOK K fd then (match dflIn K fd.defaults with
    | some dv => if Nat.ble dv.length fd.params.args.length then (match flatVs (dv.drop (dv.length - n)) with
      | some ds => if Nat.beq ds.length n then some ⟨fd.params.args.map (fun x => enc x.arg), ds, fdBody fd⟩ else none
      | none => none) else none
    | none => none) else none
  | _ => none
theorem fnIs_of {K : Frag} {a : Addr} {n : Nat} {fn : Fn} (e : fnOfK K a n = some fn) : FnIs K (.ref a) fn := by
  unfold fnOfK at e
  split at e
  · rename_i oc od fd sl hl
    split at e
    · rename_i hok
      split at e
      · rename_i dv hdv
        split at e
        · rename_i hle
          split at e
          · rename_i ds hds
            split at e
            · rename_i hn
              cases e
              have hn := Nat.eq_of_beq_eq_true hn
              exact ⟨a, oc, od, sl, fd, dv, rfl, hl, hok, rfl, rfl, hdv, Nat.le_of_ble_eq_true hle, by dsimp only; rw [hn]; exact hds⟩
            · cases e
          · cases e
        · cases e
      · cases e
    · cases e
  · cases e

/-- a function of the text at its global name -/
structure FnAt (K : Frag) (n : Nat) (fn : Fn) : Prop where
  it : ∃ a k, nsIn K mainGlobals (dec n) = some (some (.ref a)) ∧ fnOfK K a k = some fn
structure ClsAt (K : Frag) (n : Nat) (fn : Fn) : Prop where
  it : ∃ C fI k, nsIn K mainGlobals (dec n) = some (some (.ref C)) ∧ keepIn K (.ref C) = true ∧ makesIn K C = true ∧ findIn K (.ref C) "__init__" = some (some (.ref fI)) ∧ typeIn K (.ref fI) = some (.type "function") ∧ fnOfK K fI k = some fn
noncomputable def fldChk (K : Frag) (C : Addr) (n : Nat) : Bool := (clsIn K C).any (·.hasDict) && findIn K (.ref C) "__getattribute__" == some (some (.builtin "object.__getattribute__")) && findIn K (.ref C) (dec n) == some none &&
  findIn K (.ref C) "__setattr__" == some (some (.builtin "object.__setattr__")) && plainOver K C && takerIn K C (dec n) == some none
structure FldAt (K : Frag) (c : Nat) (l : List Nat) : Prop where
  it : ∃ C, nsIn K mainGlobals (dec c) = some (some (.ref C)) ∧ l.all (fldChk K C) = true

theorem findN_mem {α : Type} : ∀ {l : List (Nat × α)} {n : Nat} {x : α}, findN l n = some x → (n, x) ∈ l
  | [], _, _, e => by cases e
  | p :: r, n, x, e => by
    unfold findN at e
    split at e
    · rename_i h
      cases e
      rw [← Nat.eq_of_beq_eq_true h]
      exact List.mem_cons_self ..
    · exact List.mem_cons_of_mem _ (findN_mem e)
theorem findNN_mem {α : Type} : ∀ {l : List ((Nat × Nat) × α)} {n m : Nat} {x : α}, findNN l n m = some x → ((n, m), x) ∈ l
  | [], _, _, _, e => by cases e
  | p :: r, n, m, x, e => by
    unfold findNN at e
    split at e
    · rename_i h
      cases e
      rw [Bool.and_eq_true] at h
      rw [← Nat.eq_of_beq_eq_true h.1, ← Nat.eq_of_beq_eq_true h.2]
      exact List.mem_cons_self ..
    · exact List.mem_cons_of_mem _ (findNN_mem e)
theorem memN_mem : ∀ {l : List Nat} {n : Nat}, memN l n = true → n ∈ l
  | [], _, e => by cases e
  | p :: r, n, e => by
    unfold memN at e
    split at e
    · rename_i h; rw [← Nat.eq_of_beq_eq_true h]; exact List.mem_cons_self ..
    · exact List.mem_cons_of_mem _ (memN_mem e)

section
variable {K : Frag} {h : Heap} {mg mb : Str → Option Value}
theorem fld_of {C : Addr} {n : Nat} (e : fldChk K C n = true) : ClsFld K C n ∧ ClsSet K C n := by
  simp only [fldChk, Bool.and_eq_true, beq_iff_eq] at e
  obtain ⟨⟨⟨⟨⟨a, b⟩, c⟩, d⟩, p⟩, q⟩ := e
  obtain ⟨cd, h1, h2⟩ := any_some a
  exact ⟨⟨cd, h1, h2, b, c⟩, d, p, q, a⟩
theorem globB {x : Str} {v : Value} (X : K.In h) (G : h.Ns mainGlobals mg) (B : ∀ x : Str, x ≠ "__name__" → mb x = bootBuiltins x) (e : nsIn K mainGlobals x = some none) (hn : x ≠ "__name__") (hb : bootBuiltins x = some v) : GlobV mg mb x v :=
  .inr ⟨mg_none_of X G e, (B x hn).trans hb⟩
end
end Mine
end

section
open PySem PySem.W PyProof.Rows PySem.Calls
set_option maxRecDepth 100000
namespace Mine

/-- what was laid between two heaps -/
noncomputable def Reg (h0 h1 : Heap) (b : Addr) : Prop := h0.get? b = none ∧ (h1.get? b).isSome = true

section
variable {prog : Program} {w : World} {K : Frag} {mg mb : Str → Option Value} {P P' W W' : Addr → Prop} {A : Around} {E : Value → Shared → Prop} {s s' : Shared} {env : Env} {sc : Scope} {h h' h₀ base : Heap} {ρ ρ' : List (Nat × D)} {o : Option (Nat × D)}

theorem St.seal (S : St prog w K mg mb h₀ env sc P W s ρ o) (k : Keeps s s') : St prog w K mg mb h₀ env sc (fun b => P b ∧ ¬ Reg s.heap s'.heap b) W s' ρ o := by
  refine S.mono k (fun b o p e => ⟨p, fun q => by rw [q.1] at e; cases e⟩) (fun b e => ⟨S.fresh b ?_, fun q => ?_⟩) fun b q z => S.nP b q z.1
  · cases z : s.heap.get? b with
    | none => rfl
    | some o => rw [kp k b o z] at e; cases e
  · have := q.2; rw [e] at this; cases this
theorem Reg.notWr (S : St prog w K mg mb h₀ env sc P W s ρ o) {b : Addr} (r : Reg s.heap h' b) : ¬ Wr env W b := fun q => by
  have := S.aliveWr b q
  rw [r.1] at this; cases this
/-- a name is stored of which nothing is told -/
theorem s_storeU {x : Str} {v : Value} {Q : Unit → Shared → Prop} (S : St prog w K mg mb h₀ env sc P W s ρ o) (hx : stOk sc x = true) (hd : dec (enc x) = x) (hf : freeOf o (enc x) = true) (hn : look ρ (enc x) = none)
    (hQ : ∀ s', St prog w K mg mb h₀ env sc P W s' ρ o → Step env W s W s' → VarAt env s'.heap x v → Q () s') : wpAny (model prog w) A (storeName env x v) Q E s := by
  refine s_storeG S hx fun s' a ha hsame hs haa hv hvo hns hcell => ?_
  have hw : Wr env W a := by rcases ha with h | h <;> first | exact .inl h | exact .inr (.inl h)
  have na : ¬ P a := S.nP a hw
  have hb : ∀ b o, b ≠ a → s.heap.get? b = some o → s'.heap.get? b = some o := fun b o q e => hs.extBut b o q e
  refine hQ s' ⟨S.gd, S.gdBut hw hs, S.gn, S.fresh.alive (alive_but hs haa), S.nP, ⟨S.eo.kind, S.eo.glob, S.eo.blt, fun y d' hy hyd hl => ?_, S.eo.cells, S.eo.globs, S.eo.cel⟩, S.scope, hns, hcell, S.apart, S.ne, ?_⟩ (.but S ha hsame hs haa) hv
  · refine hide fun Gg kg => ?_
    obtain ⟨u, h1, h2⟩ := S.eo.var y d' hy hyd hl
    refine kg ?_; clear kg Gg
    exact ⟨u, hvo y u (fun z => by subst z; rw [hn] at hl; cases hl) h1, h2.but hb na⟩
  · cases o with
    | none => exact S.own
    | some p =>
      refine hide fun Gg kg => ?_
      obtain ⟨n, d'⟩ := p
      obtain ⟨y, u, h1, h2, h3, h4, h5, h6⟩ := S.own
      refine kg ?_; clear kg Gg
      refine ⟨y, u, h1, h2, h3, hvo y u (fun z => ?_) h4, h5.mono (fun b o p e => hb b o (fun q => ?_) e) fun _ _ p _ => p, h6⟩
      · subst z
        simp [freeOf, BT.beq_eq, h1] at hf
      · subst q
        rcases p with p | p
        · exact na p
        · rcases ha with z | ⟨x, z⟩
          · exact (h6 _ p).1 z
          · exact (h6 _ p).2 x z

/-- an object is made, out of plain words alone -/
theorem s_made {n c : Nat} {ds : List D} {fs : List (Nat × D)} {v0 : Value} {vs : List Value} {Q : Value → Shared → Prop} (hc : ∀ (P : Addr → Prop) (A : Around) (s : Shared) (vs : List Value) (E Q : Value → Shared → Prop), AOK n A → Gd K mg mb s.heap → FreshIn P s.heap → RelL prog w mg P s.heap vs ds →
      (∀ v W s', Keeps s s' → OwnV prog w mg (fun b => P b ∧ ¬ W b) s'.heap v (.inst c fs) W → (∀ b, W b → s.heap.get? b = none) → Q v s') → wpAny (model prog w) A (call v0 vs) Q E s)
    (hA : AOK n A) (G : Gd K mg mb s.heap) (rl : RelL prog w mg (fun b => s.heap.get? b = none) s.heap vs ds)
    (hQ : ∀ v W s', Keeps s s' → OwnV prog w mg (fun b => Reg s.heap s'.heap b ∧ ¬ W b) s'.heap v (.inst c fs) W → (∀ b, W b → Reg s.heap s'.heap b) → Q v s') : wpAny (model prog w) A (call v0 vs) Q E s := by
  refine hc _ A s vs E Q hA G (fun b e => e) rl fun v W s' k hv hW => hQ v W s' k (hv.mono (fun b o _ e => e) fun b o p e => ⟨⟨p.1, isSome_of e⟩, p.2⟩) fun b q => ⟨hW b q, hv.alive b q⟩
end
end Mine
end

section
open PySem PySem.W PyProof.Rows PySem.Calls
set_option maxRecDepth 100000
namespace Mine

noncomputable def nHost : Nat := 1215263604
noncomputable def nTools : Nat := 500085779571
noncomputable def nClasses : Nat := 27985188498924915

/-- the host's object while it is filled -/
structure HostAt (prog : Program) (w : World) (mg : Str → Option Value) (R : Addr → Prop) (h : Heap) (x dx CH : Addr) (od : Obj) (dt dc : Addr) (kT kC : List (Str × Value)) : Prop where
  cls : mg (dec nHost) = some (.ref CH)
  at_ : h.get? x = some (instObj CH dx)
  dct : h.get? dx = some od
  tools : lookIn (dec nTools) od = some (some (.ref dt))
  classes : lookIn (dec nClasses) od = some (some (.ref dc))
  only : ∀ b, dec nTools ≠ b → dec nClasses ≠ b → exempt b = false → lookIn b od = some none
  dT : h.DictOf (PySem.strKind prog w) dt kT
  dC : h.DictOf (PySem.strKind prog w) dc kC
  one : dt = dc → kT = kC
  sT : (dt == sysModules) = false
  sC : (dc == sysModules) = false
  rx : R x
  rdx : R dx
  rt : R dt
  rc : R dc
  nxt : x ≠ dt ∧ dx ≠ dt ∧ x ≠ dc ∧ dx ≠ dc

section
variable {prog : Program} {w : World} {K : Frag} {mg mb : Str → Option Value} {P P' W W' R : Addr → Prop} {A : Around} {E : Value → Shared → Prop} {s s' : Shared} {env : Env} {sc : Scope} {h h' h₀ base : Heap} {ρ ρ' : List (Nat × D)} {x dx CH dt dc : Addr} {od : Obj} {kT kC : List (Str × Value)}
variable {Γ : Nat → List D → Option D} {Γm : Nat → D → List D → Option D} {isi : D → Nat → Option Bool} {kn : Nat → Bool} {fo : Nat → Nat → Bool} {n : Nat} {Γk : Nat → List D → Option (List (Nat × D))} {Γu : Nat → Nat → List (Nat × D) → List D → Option (List (Nat × D))}

theorem HostAt.keep (H : HostAt prog w mg R h x dx CH od dt dc kT kC) (k : ∀ b o, R b → h.get? b = some o → h'.get? b = some o) : HostAt prog w mg R h' x dx CH od dt dc kT kC := by
  have dk : ∀ {a kv}, R a → h.DictOf (PySem.strKind prog w) a kv → h'.DictOf (PySem.strKind prog w) a kv := fun r d => let ⟨o, es, ep, ho, q⟩ := d; ⟨o, es, ep, k _ o r ho, q⟩
  exact { H with at_ := k _ _ H.rx H.at_, dct := k _ _ H.rdx H.dct, dT := dk H.rt H.dT, dC := dk H.rc H.dC }

/-- a field of the host is read -/
theorem s_hostFld (O : Orc prog w K mg mb Γ Γm isi kn fo n) {hn : Str} {f : Nat} {fs : Str} {hp ap : Pos} {v : Value} {Q : Value → Shared → Prop} (G : Gd K mg mb s.heap) (hk : env.scope.kind = .function) (hv : VarAt env s.heap hn (.ref x)) (ho : nameOk hn = true)
    (at_ : s.heap.get? x = some (instObj CH dx)) (dct : s.heap.get? dx = some od) (hC : mg (dec nHost) = some (.ref CH)) (hfo : fo nHost f = true) (hf : nmOk fs f = true) (hl : lookIn (dec f) od = some (some v)) (hh : handedIn v = true)
    (hQ : ∀ tk, Q v { s with toks := tk }) : wpAny (model prog w) A (eval (.Attribute (.Name hn hp) fs ap) env) Q E s := by
  refine Attribute_name (s_var hk hv ho ?_)
  rw [← nmOk.d hf]
  exact s_attr G (O.fld _ _ _ hfo hC) (ox := instObj _ _) ⟨at_, rfl, rfl, dct⟩ hl hh hQ

/-- the classes' dict is written -/
theorem HostAt.setC (H : HostAt prog w mg R h x dx CH od dt dc kT kC) {kC' : List (Str × Value)} (hd : h'.DictOf (PySem.strKind prog w) dc kC') (hs : Heap.SameBut dc h h') :
    ∃ kT', HostAt prog w mg R h' x dx CH od dt dc kT' kC' ∧ (dt ≠ dc → kT' = kT) := by
  by_cases q : dt = dc
  · exact ⟨kC', { H with at_ := (hs.2 x H.nxt.2.2.1).trans H.at_, dct := (hs.2 dx H.nxt.2.2.2).trans H.dct, dT := by rw [q]; exact hd, dC := hd, one := fun _ => rfl }, fun z => absurd q z⟩
  · refine ⟨kT, { H with at_ := (hs.2 x H.nxt.2.2.1).trans H.at_, dct := (hs.2 dx H.nxt.2.2.2).trans H.dct, dT := ?_, dC := hd, one := fun z => absurd z q }, fun _ => rfl⟩
    refine hide fun Gg kg => ?_
    obtain ⟨o, es, ep, ho, r⟩ := H.dT
    refine kg ?_; clear kg Gg
    exact ⟨o, es, ep, (hs.2 dt q).trans ho, r⟩
theorem HostAt.setT (H : HostAt prog w mg R h x dx CH od dt dc kT kC) {kT' : List (Str × Value)} (hd : h'.DictOf (PySem.strKind prog w) dt kT') (hs : Heap.SameBut dt h h') :
    ∃ kC', HostAt prog w mg R h' x dx CH od dt dc kT' kC' ∧ (dt ≠ dc → kC' = kC) ∧ (dt = dc → kC' = kT') := by
  by_cases q : dt = dc
  · exact ⟨kT', { H with at_ := (hs.2 x H.nxt.1).trans H.at_, dct := (hs.2 dx H.nxt.2.1).trans H.dct, dT := hd, dC := by rw [← q]; exact hd, one := fun _ => rfl }, fun z => absurd q z, fun _ => rfl⟩
  · refine ⟨kC, { H with at_ := (hs.2 x H.nxt.1).trans H.at_, dct := (hs.2 dx H.nxt.2.1).trans H.dct, dT := hd, dC := ?_, one := fun z => absurd z q }, fun _ => rfl, fun z => absurd z q⟩
    refine hide fun Gg kg => ?_
    obtain ⟨o, es, ep, ho, r⟩ := H.dC
    refine kg ?_; clear kg Gg
    exact ⟨o, es, ep, (hs.2 dc (Ne.symm q)).trans ho, r⟩

/-- a place of a sealed region is written -/
theorem St.other {a : Addr} (S : St prog w K mg mb h₀ env sc P W s ρ none) (hs : Heap.SameBut a s.heap s'.heap) (ha : (s'.heap.get? a).isSome = true) (nP : ¬ P a) (nW : ¬ Wr env W a) (n0 : h₀.get? a = none) : St prog w K mg mb h₀ env sc P W s' ρ none :=
  S.butA (fun b o q e => (hs.2 b q).trans e) nP nW n0 (fun _ p => p) (S.fresh.alive (alive_but hs ha)) S.nP

theorem VarAt.other {a : Addr} {y : Str} {u : Value} (r : VarAt env h y u) (hs : Heap.SameBut a h h') (nW : ¬ Wr env W a) : VarAt env h' y u := by
  rcases r with ⟨a', m, b, c⟩ | ⟨a', c, b, d⟩
  · exact .inl ⟨a', m, b.at' fun o e => (hs.2 _ (fun q => nW (.inl q.symm))).trans e, c⟩
  · refine hide fun Gg kg => ?_
    obtain ⟨oc, hoc, hd⟩ := d
    refine kg ?_; clear kg Gg
    exact .inr ⟨a', c, b, oc, (hs.2 _ (fun q => nW (.inr (.inl ⟨y, q ▸ PySem.mem_of_lookup b⟩)))).trans hoc, hd⟩

/-- host.tools['class'] = _law_class -/
theorem s_tool (O : Orc prog w K mg mb Γ Γm isi kn fo n) {hn tl lc cl : Str} {lcn : Nat} {hp ap p₁ p₂ p₃ p₄ : Pos} {kd : Nat} {fv : Value} {Q : Flow → Shared → Prop} (S : St prog w K mg mb h₀ env sc P (fun _ => False) s ρ none) (hA : AOK n A)
    (H : HostAt prog w mg R s.heap x dx CH od dt dc kT kC) (hR : ∀ b, R b → ¬ P b ∧ ¬ Wr env (fun _ => False) b ∧ h₀.get? b = none) (hv : VarAt env s.heap hn (.ref x)) (ho : nameOk hn = true) (hfo : fo nHost nTools = true) (hf : nmOk tl nTools = true)
    (hg : isGlob sc lc = true) (hgn : nmOk lc lcn = true) (hgo : nameOk lc = true) (hgv : mg (dec lcn) = some fv) (hlen : kT.length ≤ 1000)
    (hQ : ∀ s' kC', (∃ h t, s' = { s with heap := h, toks := t }) → St prog w K mg mb h₀ env sc P (fun _ => False) s' ρ none → HostAt prog w mg R s'.heap x dx CH od dt dc (stored kT cl fv) kC' → (dt ≠ dc → kC' = kC) → (dt = dc → kC' = stored kT cl fv) → VarAt env s'.heap hn (.ref x) →
      (∀ b o, b ≠ dt → s.heap.get? b = some o → s'.heap.get? b = some o) → Q .next s') :
    wpAny (model prog w) A (exec (.Assign [.Subscript (.Attribute (.Name hn hp) tl ap) (.Constant (.str cl) kd p₁) p₂] (.Name lc p₃) p₄) env) Q E s := by
  have hgl : GlobV mg mb lc fv := by rw [← nmOk.d hgn]; exact .inl hgv
  refine wpAny_Assign_Subscript (s_glob S.good S.eo.kind S.eo.glob S.eo.blt (S.eo.globs _ (isGlob_look hg)) hgl hgo ?_)
  refine s_hostFld O S.good S.eo.kind hv ho H.at_ H.dct H.cls hfo hf H.tools rfl fun tk => ?_
  refine wpAny_Constant_str ?_
  refine wpAny_setItem_pairs (knd := PySem.strKind prog w) (k := cl) (by simp [PySem.strKind, Value.isStrOf]) (s := { s with toks := _ }) H.dT (fun h' hd hs => ?_) (by rw [sizeLine_eq]; omega)
  refine hide fun Gg kg => ?_
  obtain ⟨kC', H', e1, e2⟩ := H.setT hd hs
  obtain ⟨r1, r2, r3⟩ := hR dt H.rt
  refine kg ?_; clear kg Gg
  have ha : (h'.get? dt).isSome = true := by obtain ⟨o, _, _, e, _⟩ := hd; exact isSome_of e
  refine hQ _ kC' ⟨h', _, rfl⟩ (S.other hs ha r1 r2 r3) H' e1 e2 (hv.other hs r2) fun b o q e => (hs.2 b q).trans e

noncomputable def allStr : List D → Bool
  | [] => true
  | .str _ :: r => allStr r
  | _ => false
theorem RelL.strs {vs : List Value} {ds : List D} (r : RelL prog w mg P h vs ds) (e : allStr ds = true) : RelL prog w mg P' h' vs ds := by
  induction ds generalizing vs with
  | nil => apply RelL.eNil r; exact .nil
  | cons d ds ih =>
    apply RelL.eCons r
    intro v vs a b
    cases d with
    | str x => apply RelV.eStr a; intro t; exact .cons (.str _ _) (ih b e)
    | _ => exact nf e

/-- host.classes[..] = Klass(..) -/
theorem s_klass (O : Orc2 prog w K mg mb Γ Γm isi kn fo Γk Γu n) {hn cs kc : Str} {c : Nat} {hp ap p₂ p₃ p₄ q : Pos} {l : List Expr} {ps : List PE} {ie : Expr} {pie : PE} {ds : List D} {fs : List (Nat × D)} {kk : Str} {Q : Flow → Shared → Prop} (S : St prog w K mg mb h₀ env sc P (fun _ => False) s ρ none) (hA : AOK n A)
    (H : HostAt prog w mg R s.heap x dx CH od dt dc kT kC) (hR : ∀ b, R b → ¬ P b ∧ ¬ Wr env (fun _ => False) b ∧ h₀.get? b = none) (hv : VarAt env s.heap hn (.ref x)) (ho : nameOk hn = true) (hfo : fo nHost nClasses = true) (hf : nmOk cs nClasses = true)
    (hg : isGlob sc kc = true) (hgn : nmOk kc c = true) (hgo : nameOk kc = true) (rl : RepL sc l ps) (hds : evEs Γ Γm isi kn fo ps ρ = some ds) (hst : allStr ds = true) (hfs : Γk c ds = some fs) (ri : Rep sc ie pie) (hi : evE Γ Γm isi kn fo pie ρ = some (.str kk)) (hlen : kC.length ≤ 1000)
    (hsw : swapsWith (.Call (.Name kc p₃) l [] q) (some (.Subscript (.Attribute (.Name hn hp) cs ap) ie p₂)) p₄.line env = pure false)
    (hQ : ∀ (s' : Shared) (kT' : List (Str × Value)) (v : Value) (W R' : Addr → Prop), (∃ h t, s' = { s with heap := h, toks := t }) → (∀ b, R' b → P b ∧ s.heap.get? b = none ∧ (s'.heap.get? b).isSome = true) → St prog w K mg mb h₀ env sc (fun b => P b ∧ ¬ R' b) (fun _ => False) s' ρ none → HostAt prog w mg R s'.heap x dx CH od dt dc kT' (stored kC kk v) → (dt ≠ dc → kT' = kT) → VarAt env s'.heap hn (.ref x) →
      OwnV prog w mg (fun b => R' b ∧ ¬ W b) s'.heap v (.inst c fs) W → (∀ b, W b → R' b) → (∀ b o, b ≠ dc → s.heap.get? b = some o → s'.heap.get? b = some o) → Q .next s') :
    wpAny (model prog w) A (exec (.Assign [.Subscript (.Attribute (.Name hn hp) cs ap) ie p₂] (.Call (.Name kc p₃) l [] q) p₄) env) Q E s := by
  refine hide fun Gg kg => ?_
  obtain ⟨v0, hgl, hk, hmk⟩ := O.mkO _ _ _ hfs
  refine kg ?_; clear kg Gg
  have hgl' : GlobV mg mb kc v0 := by rw [← nmOk.d hgn]; exact hgl
  refine wpAny_Assign_Subscript (wpAny_Call_ofName (s_glob S.good S.eo.kind S.eo.glob S.eo.blt (S.eo.globs _ (isGlob_look hg)) hgl' hgo ?_)) hsw
  refine callWith_of (P := Gd K mg mb) (by rw [star_plain rl]; rfl) hk (args_rep rl ((mainL O.toOrc rl).1 env ρ P A s _ _ ds _ hA S.good S.fresh S.eo hds fun vs s₁ k rv => ⟨S.good.keeps (kp k), ?_⟩))
  have S₁ := S.keeps k
  refine s_made hmk hA S₁.good (rv.strs hst) fun v W s₂ k₂ ow hW => ?_
  have S₂ := S₁.seal k₂
  have k₁₂ := kTr k k₂
  have H₂ := H.keep (h' := s₂.heap) fun b o _ e => kp k₁₂ b o e
  have hv₂ := hv.keeps (kp k₁₂)
  refine s_hostFld O.toOrc S₂.good S₂.eo.kind hv₂ ho H₂.at_ H₂.dct H₂.cls hfo hf H₂.classes rfl fun tk => ?_
  have S₃ := S₂.keeps (kTk s₂ tk)
  refine (mainE O.toOrc ri).1 env ρ _ A _ _ _ (.str kk) hA S₃.good S₃.fresh S₃.eo hi fun iv s₄ p => ?_
  obtain ⟨k₄, rvi⟩ := p
  apply RelV.eStr rvi; clear rvi; intro ti
  have S₄ := S₃.keeps k₄
  have k₂₄ := kTr (kTk s₂ tk) k₄
  have H₄ := H₂.keep (h' := s₄.heap) fun b o _ e => kp k₂₄ b o e
  refine wpAny_setItem_pairs (knd := PySem.strKind prog w) (k := kk) (by simp [PySem.strKind, Value.isStrOf]) H₄.dC (fun h' hd hs => ?_) (by rw [sizeLine_eq]; omega)
  refine hide fun Gg kg => ?_
  obtain ⟨kT', H', e1⟩ := H₄.setC hd hs
  obtain ⟨r1, r2, r3⟩ := hR dc H.rc
  have ha : (h'.get? dc).isSome = true := by obtain ⟨o, _, _, e, _⟩ := hd; exact isSome_of e
  have hdcAlive : (s₁.heap.get? dc).isSome = true := by obtain ⟨o, _, _, e, _⟩ := H.dC; exact isSome_of (kp k _ _ e)
  have dcR : ¬ Reg s₁.heap s₂.heap dc := fun q => by rw [q.1] at hdcAlive; cases hdcAlive
  have hal : ∀ b, (s₂.heap.get? b).isSome = true → (h'.get? b).isSome = true := fun b e => alive_but hs ha b (by
    obtain ⟨o, ho⟩ := Option.isSome_iff_exists.mp e
    exact isSome_of (kp k₂₄ b o ho))
  obtain ⟨h₁, t₁, e₁, _⟩ := id k₁₂
  obtain ⟨h₂, t₂, e₂, _⟩ := id k₂₄
  refine kg ?_; clear kg Gg
  refine hQ ⟨h', s₄.gens, s₄.drawn, s₄.toks + 1, s₄.os⟩ kT' v W (Reg s₁.heap s₂.heap) ⟨h', _, by rw [e₂, e₁]⟩ (fun b q => ⟨S₁.fresh b q.1, ?_, hal b q.2⟩) (S₄.other (s' := ⟨h', s₄.gens, s₄.drawn, s₄.toks + 1, s₄.os⟩) hs ha (fun z => r1 z.1) r2 r3) H' e1 ((hv₂.keeps (kp k₂₄)).other hs r2) ?_ hW fun b o nb e => (hs.2 b nb).trans (kp k₂₄ b o (kp k₁₂ b o e))
  · cases z : s.heap.get? b with
    | none => rfl
    | some o => have := kp k b o z; rw [q.1] at this; cases this
  · refine ow.mono (fun b o p e => (hs.2 b (fun z => ?_)).trans (kp k₂₄ b o e)) fun b o p _ => p
    subst z
    rcases p with p | p
    · exact dcR p.1
    · exact dcR (hW _ p)
end
end Mine
end

section
open PySem PySem.W PyProof.Rows PySem.Calls
set_option maxRecDepth 100000
namespace Mine
section
variable {prog : Program} {w : World} {K : Frag} {mg mb : Str → Option Value} {P P' W W' R : Addr → Prop} {A : Around} {E : Value → Shared → Prop} {s s' : Shared} {env : Env} {sc : Scope} {h h' h₀ base : Heap} {ρ ρ' : List (Nat × D)} {x dx CH dt dc : Addr} {od : Obj} {kT kC : List (Str × Value)}
variable {Γ : Nat → List D → Option D} {Γm : Nat → D → List D → Option D} {isi : D → Nat → Option Bool} {kn : Nat → Bool} {fo : Nat → Nat → Bool} {n : Nat} {Γk : Nat → List D → Option (List (Nat × D))} {Γu : Nat → Nat → List (Nat × D) → List D → Option (List (Nat × D))}

theorem RelV.dct0 {v : Value} (r : RelV prog w mg P h v (.dct [])) : ∃ a, v = .ref a ∧ P a ∧ (a == sysModules) = false ∧ h.DictOf (PySem.strKind prog w) a [] := by
  apply RelV.eDct r; clear r; intro _ _ a b c d
  cases d; exact ⟨_, rfl, a, b, c⟩

/-- host = Host() -/
theorem s_host (O : Orc2 prog w K mg mb Γ Γm isi kn fo Γk Γu n) {hn Hn : Str} {px pc q p : Pos} {fs : List (Nat × D)} {Q : Flow → Shared → Prop} (S : St prog w K mg mb h₀ env sc P (fun _ => False) s ρ none) (hA : AOK n A)
    (hx : stOk sc hn = true) (hm : dec (enc hn) = hn) (hnone : look ρ (enc hn) = none) (hg : isGlob sc Hn = true) (hgn : nmOk Hn nHost = true) (hgo : nameOk Hn = true) (hfs : Γk nHost [] = some fs)
    (ht : fs.lookup nTools = some (.dct [])) (hc : fs.lookup nClasses = some (.dct [])) (hex : ∀ p ∈ fs, p.1 = nTools ∨ p.1 = nClasses ∨ exempt (dec p.1) = true)
    (hQ : ∀ (s' : Shared) (x dx CH : Addr) (od : Obj) (dt dc : Addr) (R' : Addr → Prop), (∃ h t, s' = { s with heap := h, toks := t }) → (∀ b, R' b → P b ∧ s.heap.get? b = none ∧ (s'.heap.get? b).isSome = true) → St prog w K mg mb h₀ env sc (fun b => P b ∧ ¬ R' b) (fun _ => False) s' ρ none →
      HostAt prog w mg R' s'.heap x dx CH od dt dc [] [] → VarAt env s'.heap hn (.ref x) → (∀ b o, ¬ Wr env (fun _ => False) b → s.heap.get? b = some o → s'.heap.get? b = some o) → Q .next s') :
    wpAny (model prog w) A (exec (.Assign [.Name hn px] (.Call (.Name Hn pc) [] [] q) p) env) Q E s := by
  refine hide fun Gg kg => ?_
  obtain ⟨v0, hgl, hk, hmk⟩ := O.mkO _ _ _ hfs
  refine kg ?_; clear kg Gg
  have hgl' : GlobV mg mb Hn v0 := by rw [← nmOk.d hgn]; exact hgl
  have rl : RepL sc [] [] := .nil
  refine wpAny_Assign_Name (wpAny_Call_ofName (s_glob S.good S.eo.kind S.eo.glob S.eo.blt (S.eo.globs _ (isGlob_look hg)) hgl' hgo ?_)) (by rfl)
  refine callWith_of (P := Gd K mg mb) (by rw [star_plain rl]; rfl) hk (args_rep rl ((mainL O.toOrc rl).1 env ρ P A s _ _ [] _ hA S.good S.fresh S.eo (by simp [evEs]) fun vs s₁ k rv => ⟨S.good.keeps (kp k), ?_⟩))
  have S₁ := S.keeps k
  refine s_made hmk hA S₁.good (rv.strs rfl) fun v W s₂ k₂ ow hW => ?_
  have S₂ := S₁.seal k₂
  have k₁₂ := kTr k k₂
  refine s_storeU S₂ hx hm rfl hnone fun s₃ S₃ st₃ hv₃ => ?_
  have rW : ∀ b, Reg s₁.heap s₂.heap b → ¬ Wr env (fun _ => False) b := fun b r => r.notWr S₁
  have kR : ∀ b o, Reg s₁.heap s₂.heap b → s₂.heap.get? b = some o → s₃.heap.get? b = some o := fun b o r e => st₃.kept b o (rW b r) e
  generalize hD : D.inst nHost fs = d at ow
  cases ow with
  | lst => cases hD
  | inst g1 g2 g3 g4 g5 g6 g7 g8 g9 g10 =>
    rename_i x dx C c nn fs' es
    cases hD
    refine hide fun Gg kg => ?_
    obtain ⟨vt, ht1, ht2⟩ := g7.get ht
    obtain ⟨vc, hc1, hc2⟩ := g7.get hc
    obtain ⟨at_, rfl, pt, st, dct_t⟩ := ht2.dct0
    obtain ⟨ac, rfl, pc', sc', dct_c⟩ := hc2.dct0
    have H₂ : HostAt prog w mg (Reg s₁.heap s₂.heap) s₂.heap x dx C (dictOf es nn) at_ ac [] [] := by
      refine ⟨g4, g1, g2, ht1, hc1, fun b h1 h2 h3 => g10 b (fun p hp => ?_) h3, dct_t, dct_c, fun _ => rfl, st, sc', hW _ (.inl rfl), hW _ (.inr rfl), pt.1, pc'.1, ⟨fun z => pt.2 (.inl z.symm), fun z => pt.2 (.inr z.symm), fun z => pc'.2 (.inl z.symm), fun z => pc'.2 (.inr z.symm)⟩⟩
      rcases hex p hp with e | e | e
      · rw [e]; exact h1
      · rw [e]; exact h2
      · intro q; rw [q] at e; rw [e] at h3; cases h3
    obtain ⟨h₁, t₁, e₁, _⟩ := id k₁₂
    obtain ⟨h₂, t₂, e₂⟩ := st₃.same
    refine kg ?_; clear kg Gg
    refine hQ s₃ x dx C _ at_ ac (Reg s₁.heap s₂.heap) ⟨h₂, t₂, by rw [e₂, e₁]⟩ (fun b r => ⟨S₁.fresh b r.1, ?_, st₃.alive b r.2⟩) S₃ (H₂.keep kR) hv₃ fun b o nb e => st₃.kept b o nb (kp k₁₂ b o e)
    cases z : s.heap.get? b with
    | none => rfl
    | some o => have := kp k b o z; rw [r.1] at this; cases this
end
end Mine
end

section
open PySem PySem.W PyProof.Rows PySem.Calls
set_option maxRecDepth 100000
namespace Mine

/-- an object made in the loop -/
structure Mk where
  k : Str
  v : Value
  fs : List (Nat × D)
  R : Addr → Prop
  W : Addr → Prop

/-- the state while the host's classes are filled -/
structure Fill (prog : Program) (w : World) (K : Frag) (mg mb : Str → Option Value) (h₀ : Heap) (env : Env) (sc : Scope) (P₀ : Addr → Prop) (hs : Heap) (RH : Addr → Prop) (c : Nat) (x dx CH : Addr) (od : Obj) (dt dc : Addr) (kC₀ kT₀ : List (Str × Value)) (hn : Str)
    (L : List Mk) (P' : Addr → Prop) (ρ' : List (Nat × D)) (kT : List (Str × Value)) (s' : Shared) : Prop where
  st : St prog w K mg mb h₀ env sc P' (fun _ => False) s' ρ' none
  sub : ∀ b, P' b → P₀ b ∧ ¬ RH b
  host : HostAt prog w mg RH s'.heap x dx CH od dt dc kT (kC₀ ++ L.map fun e => (e.k, e.v))
  hT : dt ≠ dc → kT = kT₀
  var : VarAt env s'.heap hn (.ref x)
  own : ∀ e ∈ L, OwnV prog w mg (fun b => e.R b ∧ ¬ e.W b) s'.heap e.v (.inst c e.fs) e.W
  wr : ∀ e ∈ L, ∀ b, e.W b → e.R b
  sep : ∀ e ∈ L, ∀ b, e.R b → ¬ P' b ∧ P₀ b ∧ ¬ RH b ∧ hs.get? b = none ∧ (s'.heap.get? b).isSome = true
  disj : L.Pairwise fun a b => ∀ y, a.R y → ¬ b.R y

section
variable {prog : Program} {w : World} {K : Frag} {mg mb : Str → Option Value} {P P₀ P' W W' RH : Addr → Prop} {A : Around} {E : Value → Shared → Prop} {s s' : Shared} {env : Env} {sc : Scope} {h h' h₀ base hs : Heap} {ρ ρ' : List (Nat × D)} {x dx CH dt dc : Addr} {od : Obj} {kT kC kC₀ kT₀ : List (Str × Value)} {hn : Str} {c : Nat} {L : List Mk}
variable {Γ : Nat → List D → Option D} {Γm : Nat → D → List D → Option D} {isi : D → Nat → Option Bool} {kn : Nat → Bool} {fo : Nat → Nat → Bool} {n : Nat} {Γk : Nat → List D → Option (List (Nat × D))} {Γu : Nat → Nat → List (Nat × D) → List D → Option (List (Nat × D))}

theorem stored_new {kvs : List (Str × Value)} {k : Str} {v : Value} (h : k ∉ kvs.map (·.1)) : stored kvs k v = kvs ++ [(k, v)] := by
  unfold stored
  rw [if_neg]
  intro q
  obtain ⟨kv, h1, h2⟩ := List.any_eq_true.mp q
  exact h (List.mem_map.mpr ⟨kv, h1, of_decide_eq_true h2⟩)

/-- the state stands while a place of nobody's changes -/
theorem Fill.at {I : Addr} (F : Fill prog w K mg mb h₀ env sc P₀ hs RH c x dx CH od dt dc kC₀ kT₀ hn L P' ρ' kT s') (hk : ∀ b o, b ≠ I → s'.heap.get? b = some o → h'.get? b = some o) (hal : ∀ b, (s'.heap.get? b).isSome = true → (h'.get? b).isSome = true) (n1 : ¬ P' I) (n2 : ¬ Wr env (fun _ => False) I) (n3 : h₀.get? I = none) (n4 : ¬ RH I) (n5 : ∀ e ∈ L, ¬ e.R I) {tk : Nat} :
    Fill prog w K mg mb h₀ env sc P₀ hs RH c x dx CH od dt dc kC₀ kT₀ hn L P' ρ' kT { s' with heap := h', toks := tk } := by
  refine ⟨F.st.butA (s' := { s' with heap := h', toks := tk }) hk n1 n2 n3 (fun _ p => p) (F.st.fresh.alive hal) F.st.nP, F.sub, F.host.keep fun b o r e => hk b o (fun q => n4 (q ▸ r)) e, F.hT, ?_, fun e he => (F.own e he).mono (fun b o p z => hk b o (fun q => n5 e he (by rcases p with p | p; exact q ▸ p.1; exact q ▸ F.wr e he b p)) z) fun b o p _ => p, F.wr, fun e he b r => ?_, F.disj⟩
  · rcases F.var with ⟨a', m, b, c⟩ | ⟨a', c, b, d⟩
    · exact .inl ⟨a', m, b.at' fun o e => hk _ o (fun q => n2 (.inl q.symm)) e, c⟩
    · obtain ⟨oc, hoc, hd⟩ := d
      exact .inr ⟨a', c, b, oc, hk _ _ (fun q => n2 (.inr (.inl ⟨hn, q ▸ PySem.mem_of_lookup b⟩))) hoc, hd⟩
  · obtain ⟨a, b', c', d, e'⟩ := F.sep e he b r
    exact ⟨a, b', c', d, hal b e'⟩

theorem s_store2 {o : Option (Nat × D)} {y : Str} {v : Value} {d : D} {Q : Unit → Shared → Prop} (S : St prog w K mg mb h₀ env sc P W s ρ o) (hx : stOk sc y = true) (hd : dec (enc y) = y) (hf : freeOf o (enc y) = true) (r : RelV prog w mg P s.heap v d)
    (hQ : ∀ s', St prog w K mg mb h₀ env sc P W s' (put ρ (enc y) d) o → Step env W s W s' → (∀ z u, z ≠ y → VarAt env s.heap z u → VarAt env s'.heap z u) → Q () s') : wpAny (model prog w) A (storeName env y v) Q E s := by
  refine s_storeG S hx fun s' a ha hsame hs haa hv hvo hns hcell => ?_
  have hw : Wr env W a := by rcases ha with h | h <;> first | exact .inl h | exact .inr (.inl h)
  have na : ¬ P a := S.nP a hw
  have hb : ∀ b o, b ≠ a → s.heap.get? b = some o → s'.heap.get? b = some o := fun b o q e => hs.extBut b o q e
  refine hQ s' ⟨S.gd, S.gdBut hw hs, S.gn, S.fresh.alive (alive_but hs haa), S.nP, ⟨S.eo.kind, S.eo.glob, S.eo.blt, fun z d' hz hzd hl => ?_, S.eo.cells, S.eo.globs, S.eo.cel⟩, S.scope, hns, hcell, S.apart, S.ne, ?_⟩ (.but S ha hsame hs haa) hvo
  · rw [look_put] at hl
    by_cases q : enc z = enc y
    · rw [if_pos q] at hl
      cases hl
      have : z = y := by rw [← hzd, q, hd]
      subst this
      exact ⟨v, hv, r.but hb na⟩
    · rw [if_neg q] at hl
      obtain ⟨u, h1, h2⟩ := S.eo.var z d' hz hzd hl
      exact ⟨u, hvo z u (fun e => q (e ▸ rfl)) h1, h2.but hb na⟩
  · cases o with
    | none => exact S.own
    | some p =>
      obtain ⟨m, d'⟩ := p
      obtain ⟨z, u, h1, h2, h3, h4, h5, h6⟩ := S.own
      refine ⟨z, u, h1, h2, h3, hvo z u (fun e => ?_) h4, h5.mono (fun b o p e => hb b o (fun q => ?_) e) fun _ _ p _ => p, h6⟩
      · subst e
        simp [freeOf, BT.beq_eq, h1] at hf
      · subst q
        rcases p with p | p
        · exact na p
        · rcases ha with e | ⟨x, e⟩
          · exact (h6 _ p).1 e
          · exact (h6 _ p).2 x e

/-- one turn -/
theorem Fill.turn (O : Orc2 prog w K mg mb Γ Γm isi kn fo Γk Γu n) (hA : AOK n A) (S₀ : ∀ b, Wr env (fun _ => False) b → ¬ P₀ b) (hh : ∀ b, hs.get? b = none → h₀.get? b = none) (hRH : ∀ b, RH b → P₀ b ∧ hs.get? b = none) (hP₀ : ∀ b, P' b → s'.heap.get? b = none → hs.get? b = none)
    {kx kc cs : Str} {ie : Expr} {pie : PE} {l : List Expr} {ps : List PE} {hp ap p₂ p₃ p₄ q : Pos} {nm kk : Str} {fs : List (Nat × D)} {ds : List D} {Q : Flow → Shared → Prop}
    (F : Fill prog w K mg mb h₀ env sc P₀ hs RH c x dx CH od dt dc kC₀ kT₀ hn L P' ρ' kT s') (hkx : stOk sc kx = true) (hkd : dec (enc kx) = kx) (hne : kx ≠ hn) (hno : nameOk hn = true) (hfo : fo nHost nClasses = true) (hf : nmOk cs nClasses = true)
    (hg : isGlob sc kc = true) (hgn : nmOk kc c = true) (hgo : nameOk kc = true) (rl : RepL sc l ps) (ri : Rep sc ie pie) (hi : evE Γ Γm isi kn fo pie (put ρ' (enc kx) (.str nm)) = some (.str kk)) (hds : evEs Γ Γm isi kn fo ps (put ρ' (enc kx) (.str nm)) = some ds) (hst : allStr ds = true) (hfs : Γk c ds = some fs)
    (hsw : swapsWith (.Call (.Name kc p₃) l [] q) (some (.Subscript (.Attribute (.Name hn hp) cs ap) ie p₂)) p₄.line env = pure false)
    (hnew : kk ∉ (kC₀ ++ L.map fun e => (e.k, e.v)).map (·.1)) (hlen : (kC₀ ++ L.map fun e => (e.k, e.v)).length ≤ 1000) {t : Tok} {px : Pos}
    (hQ : ∀ s'' M P'' kT'', (∃ h t, s'' = { s' with heap := h, toks := t }) → M.k = kk → M.fs = fs → (∀ b, M.R b → P' b) → Fill prog w K mg mb h₀ env sc P₀ hs RH c x dx CH od dt dc kC₀ kT₀ hn (L ++ [M]) P'' (put ρ' (enc kx) (.str nm)) kT'' s'' → (∀ b, P'' b → P' b) → (∀ b o, b ≠ dc → ¬ Wr env (fun _ => False) b → s'.heap.get? b = some o → s''.heap.get? b = some o) → (∀ b, (s'.heap.get? b).isSome = true → (s''.heap.get? b).isSome = true) → (∀ b, P'' b → s''.heap.get? b = none → hs.get? b = none) → Q .next s'') :
    wpAny (model prog w) A (assign (.Name kx px) env (.str nm t)) (fun _ s₂ => wpAny (model prog w) A (execs [.Assign [.Subscript (.Attribute (.Name hn hp) cs ap) ie p₂] (.Call (.Name kc p₃) l [] q) p₄] env) Q E s₂) E s' := by
  refine wpAny_assign_Name (s_store2 F.st hkx hkd rfl (.str nm t) fun s₁ S₁ st₁ hvo => ?_)
  have kN : ∀ b o, ¬ Wr env (fun _ => False) b → s'.heap.get? b = some o → s₁.heap.get? b = some o := st₁.kept
  have nW : ∀ b, P₀ b → ¬ Wr env (fun _ => False) b := fun b p q => S₀ b q p
  have hRH' : ∀ b, RH b → ¬ P' b ∧ ¬ Wr env (fun _ => False) b ∧ h₀.get? b = none := fun b r => ⟨fun p => (F.sub b p).2 r, nW b (hRH b r).1, hh b (hRH b r).2⟩
  have host₁ := F.host.keep (h' := s₁.heap) fun b o r e => kN b o (hRH' b r).2.1 e
  have var₁ := hvo hn _ (Ne.symm hne) F.var
  refine wpAny_execs_cons (s_klass O S₁ hA host₁ hRH' var₁ hno hfo hf hg hgn hgo rl hds hst hfs ri hi hlen hsw fun s₂ kT' v W R' hsame hR' S₂ host₂ hT' var₂ own₂ hW₂ k₂ => wpAny_execs_nil ?_)
  rw [stored_new hnew] at host₂
  obtain ⟨ha1, ta1, rfl⟩ := st₁.same
  obtain ⟨ha2, ta2, rfl⟩ := hsame
  have al : ∀ b, (s'.heap.get? b).isSome = true → (ha2.get? b).isSome = true := fun b e => by
    obtain ⟨o, ho⟩ := Option.isSome_iff_exists.mp (st₁.alive b e)
    by_cases q : b = dc
    · obtain ⟨o', _, _, e', _⟩ := host₂.dC
      rw [q]; exact isSome_of e'
    · exact isSome_of (k₂ b o q ho)
  have dcN : ∀ b, P₀ b → ¬ RH b → b ≠ dc := fun b _ r q => r (q ▸ F.host.rc)
  refine hQ _ ⟨kk, v, fs, R', W⟩ _ kT' ⟨ha2, ta2, rfl⟩ rfl rfl (fun b r => (hR' b r).1) ⟨S₂, fun b p => F.sub b p.1, ?_, fun z => ?_, var₂, ?_, ?_, ?_, ?_⟩ (fun b p => p.1) (fun b o nb nw e => k₂ b o nb (kN b o nw e)) al fun b p e => hP₀ b p.1 ?_
  · simpa [List.map_append] using host₂
  · rw [hT' z]; exact F.hT z
  · intro e he
    rcases List.mem_append.mp he with he | he
    · refine (F.own e he).mono (fun b o p z => ?_) fun b o p _ => p
      have r : e.R b := by rcases p with p | p; exact p.1; exact F.wr e he b p
      obtain ⟨r1, r2, r3, r4⟩ := F.sep e he b r
      exact k₂ b o (dcN b r2 r3) (kN b o (nW b r2) z)
    · rw [List.mem_singleton] at he; subst he; exact own₂
  · intro e he b q
    rcases List.mem_append.mp he with he | he
    · exact F.wr e he b q
    · rw [List.mem_singleton] at he; subst he; exact hW₂ b q
  · intro e he b r
    rcases List.mem_append.mp he with he | he
    · obtain ⟨r1, r2, r3, r4, r5⟩ := F.sep e he b r
      exact ⟨fun p => r1 p.1, r2, r3, r4, al b r5⟩
    · rw [List.mem_singleton] at he; subst he
      obtain ⟨p1, p2, p3⟩ := hR' b r
      refine ⟨fun p => p.2 r, (F.sub b p1).1, (F.sub b p1).2, hP₀ b p1 ?_, p3⟩
      cases z : s'.heap.get? b with
      | none => rfl
      | some o => have := kN b o (nW b (F.sub b p1).1) z; rw [p2] at this; cases this
  · rw [List.pairwise_append]
    refine ⟨F.disj, List.pairwise_singleton _ _, fun a ha b hb y q => ?_⟩
    rw [List.mem_singleton] at hb; subst hb
    exact fun r => (F.sep a ha y q).1 (hR' y r).1
  · cases z : s'.heap.get? b with
    | none => rfl
    | some o => have := al b (isSome_of z); rw [e] at this; cases this
end
end Mine
end

section
open PySem PySem.W PyProof.Rows PySem.Calls
set_option maxRecDepth 100000
namespace Mine
section
variable {prog : Program} {w : World} {K : Frag} {mg mb : Str → Option Value} {P P₀ P' W W' RH : Addr → Prop} {A : Around} {E : Value → Shared → Prop} {s s' : Shared} {env : Env} {sc : Scope} {h h' h₀ base hs : Heap} {ρ ρ' : List (Nat × D)} {x dx CH dt dc : Addr} {od : Obj} {kT kC kC₀ kT₀ : List (Str × Value)} {hn : Str} {c : Nat} {L : List Mk}
variable {Γ : Nat → List D → Option D} {Γm : Nat → D → List D → Option D} {isi : D → Nat → Option Bool} {kn : Nat → Bool} {fo : Nat → Nat → Bool} {n : Nat} {Γk : Nat → List D → Option (List (Nat × D))} {Γu : Nat → Nat → List (Nat × D) → List D → Option (List (Nat × D))}

/-- the state goes on, nothing written -/
theorem Fill.keeps (F : Fill prog w K mg mb h₀ env sc P₀ hs RH c x dx CH od dt dc kC₀ kT₀ hn L P ρ kT s) (k : Keeps s s') (hP : ∀ b, P' b → P b) (kP : ∀ b o, P b → s.heap.get? b = some o → P' b) (Fr : FreshIn P' s'.heap) : Fill prog w K mg mb h₀ env sc P₀ hs RH c x dx CH od dt dc kC₀ kT₀ hn L P' ρ kT s' :=
  ⟨F.st.mono k kP Fr fun b q z => F.st.nP b q (hP b z), fun b p => F.sub b (hP b p), F.host.keep fun b o _ e => kp k b o e, F.hT, F.var.keeps (kp k), fun e he => (F.own e he).mono (fun b o _ z => kp k b o z) fun _ _ p _ => p, F.wr, fun e he b r => by
    refine hide fun Gg kg => ?_
    obtain ⟨a, b', c', d, e'⟩ := F.sep e he b r
    obtain ⟨o, ho⟩ := Option.isSome_iff_exists.mp e'
    refine kg ?_; clear kg Gg
    exact ⟨fun z => a (hP b z), b', c', d, isSome_of (kp k b o ho)⟩, F.disj⟩

/-- the loop's iterator is done with -/
theorem Fill.fin {I : Addr} (F : Fill prog w K mg mb h₀ env sc P₀ hs RH c x dx CH od dt dc kC₀ kT₀ hn L P' ρ' kT s') (hk : ∀ b o, b ≠ I → s'.heap.get? b = some o → h'.get? b = some o) (n1 : ¬ P' I) (n2 : ¬ Wr env (fun _ => False) I) (n3 : h₀.get? I = none) (n4 : P₀ I ∧ ¬ RH I) (n5 : ∀ e ∈ L, ¬ e.R I) {tk : Nat} :
    Fill prog w K mg mb h₀ env sc P₀ hs RH c x dx CH od dt dc kC₀ kT₀ hn L (fun b => P' b ∨ b = I) ρ' kT { s' with heap := h', toks := tk } := by
  refine ⟨F.st.butA (s' := { s' with heap := h', toks := tk }) hk n1 n2 n3 (fun _ p => .inl p) (fun b e => ?_) (fun b q z => ?_), fun b p => ?_, F.host.keep fun b o r e => hk b o (fun q => n4.2 (q ▸ r)) e, F.hT, ?_, fun e he => (F.own e he).mono (fun b o p z => hk b o (fun q => n5 e he (by rcases p with p | p; exact q ▸ p.1; exact q ▸ F.wr e he b p)) z) fun b o p _ => p, F.wr, fun e he b r => ?_, F.disj⟩
  · by_cases z : b = I
    · exact .inr z
    · refine .inl (F.st.fresh b ?_)
      cases q : s'.heap.get? b with
      | none => rfl
      | some o => have := hk b o z q; dsimp only at e; rw [e] at this; cases this
  · rcases z with z | rfl
    · exact F.st.nP b q z
    · exact n2 q
  · rcases p with p | rfl
    · exact F.sub b p
    · exact n4
  · rcases F.var with ⟨a', m, b, c⟩ | ⟨a', c, b, d⟩
    · exact .inl ⟨a', m, b.at' fun o e => hk _ o (fun q => n2 (.inl q.symm)) e, c⟩
    · refine hide fun Gg kg => ?_
      obtain ⟨oc, hoc, hd⟩ := d
      refine kg ?_; clear kg Gg
      exact .inr ⟨a', c, b, oc, hk _ _ (fun q => n2 (.inr (.inl ⟨hn, q ▸ PySem.mem_of_lookup b⟩))) hoc, hd⟩
  · refine hide fun Gg kg => ?_
    obtain ⟨a, b', c', d, e'⟩ := F.sep e he b r
    have hbI : b ≠ I := fun q => n5 e he (q ▸ r)
    obtain ⟨o, ho⟩ := Option.isSome_iff_exists.mp e'
    refine kg ?_; clear kg Gg
    exact ⟨fun z => z.elim a hbI, b', c', d, isSome_of (hk b o hbI ho)⟩

section
variable (prog w K mg mb h₀ env sc P₀ hs RH c x dx CH od dt dc kC₀ kT₀ hn P ρ s)
/-- between two turns of the loop that fills -/
structure FInv (s₂ : Heap) (I : Addr) (StI : Nat → Heap → Prop) (kx : Str) (names : List Str) (low : Str → Str) (kfs : Str → List (Nat × D)) (j : Nat) (L : List Mk) (P' : Addr → Prop) (ρ' : List (Nat × D)) (kT' : List (Str × Value)) (s' : Shared) : Prop where
  hj : j ≤ names.length
  st : StI j s'.heap
  hL : L.map (fun e => (e.k, e.fs)) = (names.take j).map (fun nm => (low nm, kfs nm))
  F : Fill prog w K mg mb h₀ env sc P₀ hs RH c x dx CH od dt dc kC₀ kT₀ hn L P' ρ' kT' s'
  hP : ∀ b, P' b → P b ∧ b ≠ I
  hLI : ∀ e ∈ L, ¬ e.R I
  same : ∃ h t, s' = { s with heap := h, toks := t }
  hρ : ∀ y, y ≠ enc kx → look ρ' y = look ρ y
  kept : ∀ b o, b ≠ dc → ¬ Wr env (fun _ => False) b → b ≠ I → s₂.get? b = some o → s'.heap.get? b = some o
  al : ∀ b, (s₂.get? b).isSome = true → (s'.heap.get? b).isSome = true
inductive FLoop (s₂ : Heap) (I : Addr) (StI : Nat → Heap → Prop) (kx : Str) (names : List Str) (low : Str → Str) (kfs : Str → List (Nat × D)) (k : Nat) (s' : Shared) : Prop
  | mk (j : Nat) (L : List Mk) (P' : Addr → Prop) (ρ' : List (Nat × D)) (kT' : List (Str × Value)) (e : names.length + 1 - j = k) (i : FInv prog w K mg mb P P₀ RH s env sc h₀ hs ρ x dx CH dt dc od kC₀ kT₀ hn c s₂ I StI kx names low kfs j L P' ρ' kT' s') : FLoop s₂ I StI kx names low kfs k s'
end
theorem same_tr {s s' s'' : Shared} (a : ∃ h t, s' = { s with heap := h, toks := t }) (b : ∃ h t, s'' = { s' with heap := h, toks := t }) : ∃ h t, s'' = { s with heap := h, toks := t } := by
  obtain ⟨_, _, rfl⟩ := a
  obtain ⟨_, _, rfl⟩ := b
  exact ⟨_, _, rfl⟩
theorem new_key {kC₀ : List (Str × Value)} {L : List Mk} {names : List Str} {low : Str → Str} {kfs : Str → List (Nat × D)} {j : Nat} {nm : Str} (hnd : (kC₀.map (·.1) ++ names.map low).Nodup) (hL : L.map (fun e => (e.k, e.fs)) = (names.take j).map (fun nm => (low nm, kfs nm))) (hd : names[j]? = some nm) : low nm ∉ (kC₀ ++ L.map fun e => (e.k, e.v)).map (·.1) := by
  have hkeys : L.map (·.k) = (names.take j).map low := by
    have := congrArg (List.map Prod.fst) hL
    rw [List.map_map, List.map_map] at this
    exact this
  rw [List.map_append, List.map_map]
  have : L.map ((fun x => x.1) ∘ fun e : Mk => (e.k, e.v)) = (names.take j).map low := hkeys
  rw [this]
  refine (List.getElem?_eq_some_iff.mp hd).elim fun hlt hnm => ?_
  have hsplit : names.map low = (names.take j).map low ++ low nm :: (names.drop (j + 1)).map low := by
    conv => lhs; rw [← List.take_append_drop j names, List.drop_eq_getElem_cons hlt, hnm]
    rw [List.map_append, List.map_cons]
  rw [hsplit, ← List.append_assoc] at hnd
  exact fun hm => (List.nodup_append.mp hnd).2.2 _ hm _ (List.mem_cons_self ..) rfl
theorem s_fill (O : Orc2 prog w K mg mb Γ Γm isi kn fo Γk Γu n) (hA : AOK n A) (S₀ : ∀ b, Wr env (fun _ => False) b → ¬ P₀ b) (hh : ∀ b, hs.get? b = none → h₀.get? b = none) (hRH : ∀ b, RH b → P₀ b ∧ hs.get? b = none) (hP₀ : ∀ b, P b → s.heap.get? b = none → hs.get? b = none) (hhs : ∀ b, (hs.get? b).isSome = true → (s.heap.get? b).isSome = true)
    {kx kc cs : Str} {it ie : Expr} {pit pie : PE} {l : List Expr} {ps : List PE} {px p hp ap p₂ p₃ p₄ q : Pos} {names : List Str} {low : Str → Str} {dsOf : Str → List D} {kfs : Str → List (Nat × D)} {Q : Flow → Shared → Prop}
    (F : Fill prog w K mg mb h₀ env sc P₀ hs RH c x dx CH od dt dc kC₀ kT₀ hn [] P ρ kT s) (hkx : stOk sc kx = true) (hkd : dec (enc kx) = kx) (hne : kx ≠ hn) (hno : nameOk hn = true) (hfo : fo nHost nClasses = true) (hf : nmOk cs nClasses = true)
    (hg : isGlob sc kc = true) (hgn : nmOk kc c = true) (hgo : nameOk kc = true) (rit : Rep sc it pit) (rl : RepL sc l ps) (ri : Rep sc ie pie) (hit : evE Γ Γm isi kn fo pit ρ = some (.tup (names.map .str)))
    (hE : ∀ nm ∈ names, ∀ ρ'', evE Γ Γm isi kn fo pie (put ρ'' (enc kx) (.str nm)) = some (.str (low nm)) ∧ evEs Γ Γm isi kn fo ps (put ρ'' (enc kx) (.str nm)) = some (dsOf nm) ∧ allStr (dsOf nm) = true ∧ Γk c (dsOf nm) = some (kfs nm))
    (hsw : swapsWith (.Call (.Name kc p₃) l [] q) (some (.Subscript (.Attribute (.Name hn hp) cs ap) ie p₂)) p₄.line env = pure false)
    (hnd : (kC₀.map (·.1) ++ names.map low).Nodup) (hlen : kC₀.length + names.length ≤ 900)
    (hQ : ∀ (s' : Shared) (L : List Mk) (P' : Addr → Prop) (ρ' : List (Nat × D)) (kT' : List (Str × Value)), (∃ h t, s' = { s with heap := h, toks := t }) → L.map (fun e => (e.k, e.fs)) = names.map (fun nm => (low nm, kfs nm)) → Fill prog w K mg mb h₀ env sc P₀ hs RH c x dx CH od dt dc kC₀ kT₀ hn L P' ρ' kT' s' → (∀ y, y ≠ enc kx → look ρ' y = look ρ y) →
      (∀ b o, b ≠ dc → ¬ Wr env (fun _ => False) b → s.heap.get? b = some o → s'.heap.get? b = some o) → Q .next s') :
    wpAny (model prog w) A (exec (.For (.Name kx px) it [.Assign [.Subscript (.Attribute (.Name hn hp) cs ap) ie p₂] (.Call (.Name kc p₃) l [] q) p₄] [] p) env) Q E s := by
  have S := F.st
  refine wpAny_For ((mainE O.toOrc rit).1 env ρ P A s _ _ _ hA S.good S.fresh S.eo hit fun v s₁ pv => src_iter hA.1 pv.2 rfl fun itv s₂ hi => ?_) (fun y => rit.folded env y)
  have k₁ := pv.1
  clear pv
  apply hi; clear hi; intro fp PV StI X
  have k12 := X.k; have hIal := X.al; have Wk := X.W; have st0 := X.st; have hfp := X.fp; have hpv := X.pv; clear X
  have hIn : s₁.heap.get? s₁.heap.objs.size = none := get_size _
  generalize s₁.heap.objs.size = I at *
  have hIs : s.heap.get? I = none := by
    cases q : s.heap.get? I with
    | none => rfl
    | some o => rw [kp k₁ _ _ q] at hIn; cases hIn
  have k₂ := kTr k₁ k12
  refine hide fun Gg kg => ?_
  obtain ⟨n0, nL, nC⟩ := fresh_apart S hIs
  refine kg ?_; clear kg Gg
  have nWI : ¬ Wr env (fun _ => False) I := by
    rintro (q | ⟨y, q⟩ | q)
    · exact nL q
    · exact nC y q
    · exact q
  have SI : (s₂.heap.get? I).isSome = true := hIal _ _ st0
  have F₂ : Fill prog w K mg mb h₀ env sc P₀ hs RH c x dx CH od dt dc kC₀ kT₀ hn [] (fun b => P b ∧ b ≠ I) ρ kT s₂ := F.keeps k₂ (fun b p => p.1) (fun b o p e => ⟨p, fun q => by subst q; rw [hIs] at e; cases e⟩)
    (fun b e => ⟨S.fresh b (by cases z : s.heap.get? b with | none => rfl | some o => rw [kp k₂ b o z] at e; cases e), fun q => by subst q; rw [e] at SI; cases SI⟩)
  have nRI : ¬ RH I := fun r => (F.sub I (S.fresh I hIs)).2 r
  have hlenN : (names.map D.str).length = names.length := List.length_map ..
  rw [hlenN] at Wk
  refine codeAny_forLoop (fun k s' => FLoop prog w K mg mb P P₀ RH s env sc h₀ hs ρ x dx CH dt dc od kC₀ kT₀ hn c s₂.heap I StI kx names low kfs k s') ?_ (names.length + 1)
    (.mk 0 [] _ ρ kT rfl ⟨Nat.zero_le _, st0, rfl, F₂, fun b q => q, fun e he => (nomatch he), k₂.imp fun h q => q.imp fun t q => q.1, fun _ _ => rfl, fun b o _ _ _ e => e, fun b e => e⟩)
  clear st0 F₂
  intro k s' fl
  cases fl with | mk j L P' ρ' kT' e i => ?_
  subst e
  by_cases hlt : j < names.length
  · refine Wk.item j _ _ _ hlt i.st fun v h₁ tk₁ hPv hst₁ hk₁ => ?_
    have hk₁' : ∀ b o, b ≠ I → s'.heap.get? b = some o → h₁.get? b = some o := fun b o q e => hk₁ b o (fun z => q (List.mem_singleton.mp z)) e
    clear hk₁
    have SI₁ : (h₁.get? I).isSome = true := hIal _ _ hst₁
    have hal₁ : ∀ b, (s'.heap.get? b).isSome = true → (h₁.get? b).isSome = true := fun b e => by
      by_cases z : b = I
      · rw [z]; exact SI₁
      · exact (Option.isSome_iff_exists.mp e).elim fun o ho => isSome_of (hk₁' b o z ho)
    have F₁ := i.F.at (tk := tk₁) hk₁' hal₁ (fun z => (i.hP I z).2 rfl) nWI n0 nRI i.hLI
    have hd : names[j]? = some names[j] := List.getElem?_eq_getElem hlt
    have hmem : names[j] ∈ names := List.getElem_mem ..
    generalize names[j] = nm at hd hmem
    have rd := hpv j v (.str nm) hPv (by rw [List.getElem?_map, hd]; rfl)
    have E := hE _ hmem ρ'
    apply RelV.eStr rd; clear rd hPv hmem; intro t
    have hLlen : L.length = j := by have := congrArg List.length i.hL; rw [List.length_map, List.length_map, List.length_take, Nat.min_eq_left i.hj] at this; exact this
    refine Fill.turn (s' := { s' with heap := h₁, toks := tk₁ }) O hA S₀ hh hRH (fun b p e => ?_) F₁ hkx hkd hne hno hfo hf hg hgn hgo rl ri E.1 E.2.1 E.2.2.1 E.2.2.2 hsw (new_key hnd i.hL hd) (by rw [List.length_append, List.length_map, hLlen]; exact Nat.le_trans (Nat.add_le_add_left i.hj _) (Nat.le_trans hlen (by decide))) fun s₄ M P₄ kT₄ hsame₄ hMk hMf hMR F₄ hsub₄ hkept₄ hal₄ hP₄ => ?_
    · cases z : hs.get? b with
      | none => rfl
      | some o => exact nz e ((Option.isSome_iff_exists.mp (hhs b (isSome_of z))).elim fun o' ho' => hal₁ b (i.al b (isSome_of (kp k₂ b o' ho'))))
    · have hfpk : ∀ b ∈ fp, ∀ o, h₁.get? b = some o → s₄.heap.get? b = some o := fun b hb o e => (hfp b hb).elim (fun q => hkept₄ b o (fun z => nRI (q ▸ z ▸ F.host.rc)) (q ▸ nWI) e) fun q => hkept₄ b o (fun z => (F.sub b q.1).2 (z ▸ F.host.rc)) (fun z => S₀ b z (F.sub b q.1).1) e
      exact ⟨names.length + 1 - (j + 1), Nat.sub_lt_sub_left (Nat.lt_succ_of_lt hlt) (Nat.lt_succ_self j), .mk (j + 1) (L ++ [M]) P₄ _ kT₄ rfl ⟨hlt, Wk.frame _ _ _ hst₁ hfpk, by rw [List.map_append, i.hL, List.take_add_one, hd, List.map_append, List.map_cons, hMk, hMf]; rfl, F₄, fun b p => i.hP b (hsub₄ b p),
        fun e he => (List.mem_append.mp he).elim (i.hLI e) fun he => List.mem_singleton.mp he ▸ fun r => (i.hP I (hMR I r)).2 rfl, same_tr (s' := { s' with heap := h₁, toks := tk₁ }) (same_tr i.same ⟨_, _, rfl⟩) hsame₄, fun y hy => by rw [look_put, if_neg hy]; exact i.hρ y hy,
        fun b o n1 n2 n3 e => hkept₄ b o n1 n2 (hk₁' b o n3 (i.kept b o n1 n2 n3 e)), fun b e => hal₄ b (hal₁ b (i.al b e))⟩⟩
  · have hin : j = names.length := Nat.le_antisymm i.hj (Nat.le_of_not_lt hlt)
    subst hin
    refine Wk.done _ _ _ i.st fun h₁ tk₁ hk₁ => ?_
    have hk₁' : ∀ b o, b ≠ I → s'.heap.get? b = some o → h₁.get? b = some o := fun b o q e => hk₁ b o (fun z => q (List.mem_singleton.mp z)) e
    have hL := i.hL
    rw [List.take_length] at hL
    refine wpAny_execs_nil (hQ _ L _ ρ' kT' (same_tr i.same ⟨h₁, tk₁, rfl⟩) hL (i.F.fin (tk := tk₁) hk₁' (fun z => (i.hP I z).2 rfl) nWI n0 (F.sub I (S.fresh I hIs)) i.hLI) i.hρ fun b o n1 n2 e => ?_)
    have hbI : b ≠ I := fun z => ns (e.symm.trans (z ▸ hIs))
    exact hk₁' b o hbI (i.kept b o n1 n2 hbI (kp k₂ b o e))
end
end Mine
end

section
open PySem PySem.W PyProof.Rows PySem.Calls
set_option maxRecDepth 100000
namespace Mine

noncomputable def klsD (c par : Nat) (k0 k1 k2 : Str) (f0 f1 f2 : List (Nat × D)) : List (Str × D) := [(k0, .inst c f0), (k1, .inst c (put f1 par (.inst c f0))), (k2, .inst c f2)]
noncomputable def hostD (al : Bool) (cl : Str) (lc : Nat) (ks : List (Str × D)) : D := match al with
  | false => .inst nHost [(nTools, .dct [(cl, .top lc)]), (nClasses, .dct ks)]
  | true => .inst nHost [(nTools, .dct ((cl, .top lc) :: ks)), (nClasses, .dct ((cl, .top lc) :: ks))]

section
variable {prog : Program} {w : World} {K : Frag} {mg mb : Str → Option Value} {P P₀ P' W W' RH R : Addr → Prop} {A : Around} {E : Value → Shared → Prop} {s s' : Shared} {env : Env} {sc : Scope} {h h' h₀ base hs : Heap} {ρ ρ' : List (Nat × D)} {x dx CH dt dc : Addr} {od : Obj} {kT kC kC₀ kT₀ : List (Str × Value)} {hn : Str} {c : Nat} {L : List Mk}
variable {Γ : Nat → List D → Option D} {Γm : Nat → D → List D → Option D} {isi : D → Nat → Option Bool} {kn : Nat → Bool} {fo : Nat → Nat → Bool} {n : Nat} {Γk : Nat → List D → Option (List (Nat × D))} {Γu : Nat → Nat → List (Nat × D) → List D → Option (List (Nat × D))}

/-- a class of the host is read -/
theorem s_hostItem (O : Orc prog w K mg mb Γ Γm isi kn fo n) {cs kk : Str} {hp ap p q : Pos} {kd : Nat} {v : Value} {Q : Value → Shared → Prop} (G : Gd K mg mb s.heap) (hk : env.scope.kind = .function) (H : HostAt prog w mg R s.heap x dx CH od dt dc kT kC) (hv : VarAt env s.heap hn (.ref x)) (ho : nameOk hn = true) (hfo : fo nHost nClasses = true) (hf : nmOk cs nClasses = true)
    (hl : valueAt kC kk = some v) (hQ : ∀ tk, Q v { s with toks := tk }) : wpAny (model prog w) A (eval (.Subscript (.Attribute (.Name hn hp) cs ap) (.Constant (.str kk) kd p) q) env) Q E s := by
  refine Subscript_ (s_hostFld O G hk hv ho H.at_ H.dct H.cls hfo hf H.classes rfl fun tk => wpAny_Constant_str ?_)
  refine tail_any (s := { s with toks := _ }) H.dC.typeIs slot_dict_getitem.lookup ?_ (by rfl)
  exact wpAny_getItem_of (knd := PySem.strKind prog w) (k := kk) (by simp [PySem.strKind, Value.isStrOf]) H.dC.mapOf hl (hQ _)

theorem map_one {α β : Type} {f : α → β} {a : β} {r : List β} {L : List α} (h : L.map f = a :: r) : ∃ x L', L = x :: L' ∧ L'.map f = r := by
  cases L with
  | nil => cases h
  | cons x L => exact ⟨x, L, rfl, (List.cons.inj h).2⟩
theorem map_three {α β : Type} {f : α → β} {a b c : β} {L : List α} (h : L.map f = [a, b, c]) : ∃ x y z, L = [x, y, z] := by
  refine hide fun Gg kg => ?_
  obtain ⟨x, L1, rfl, h1⟩ := map_one h
  obtain ⟨y, L2, rfl, h2⟩ := map_one h1
  obtain ⟨z, L3, rfl, h3⟩ := map_one h2
  refine kg ?_; clear kg Gg
  cases L3 with
  | nil => exact ⟨_, _, _, rfl⟩
  | cons _ _ => cases h3
theorem s_parent (O : Orc2 prog w K mg mb Γ Γm isi kn fo Γk Γu n) {cs cs' par : Str} {np lc : Nat} {hp ap p₀ p₁ p₂ p₃ q₀ q₁ hp' ap' : Pos} {kd₀ kd₁ : Nat} {k0 k1 k2 cl : Str} {f0 f1 f2 : List (Nat × D)} {fv : Value} {Q : Flow → Shared → Prop}
    (S₀ : ∀ b, Wr env (fun _ => False) b → ¬ P₀ b) (Fr₀ : FreshIn P₀ hs) (hhs : ∀ b, (hs.get? b).isSome = true → (s.heap.get? b).isSome = true) (hRH : ∀ b, RH b → P₀ b ∧ hs.get? b = none) (hh : ∀ b, hs.get? b = none → h₀.get? b = none)
    (F : Fill prog w K mg mb h₀ env sc P₀ hs RH c x dx CH od dt dc kC₀ [(cl, fv)] hn L P ρ kT s) (hL : L.map (fun e => (e.k, e.fs)) = [(k0, f0), (k1, f1), (k2, f2)])
    (hfv : mg (dec lc) = some fv) (h0n : dt ≠ dc → kC₀ = []) (h0a : dt = dc → kC₀ = [(cl, fv)]) (hkd : cl ≠ k0 ∧ cl ≠ k1 ∧ k0 ≠ k1)
    (hnv : isVar sc hn = true) (hde : dec (enc hn) = hn) (hno : nameOk hn = true) (hfo : fo nHost nClasses = true) (hf : nmOk cs nClasses = true) (hf' : nmOk cs' nClasses = true) (hpar : nmOk par np = true) (hfop : fo c np = true) (hfl : f1.length ≤ 100)
    (hQ : ∀ (s' : Shared) (al : Bool), (∃ h t, s' = { s with heap := h, toks := t }) → St prog w K mg mb h₀ env sc P₀ (fun _ => False) s' (put ρ (enc hn) (hostD al cl lc (klsD c np k0 k1 k2 f0 f1 f2))) none → Q .next s') :
    wpAny (model prog w) A (exec (.Assign [.Attribute (.Subscript (.Attribute (.Name hn hp) cs ap) (.Constant (.str k1) kd₁ p₁) q₁) par p₂] (.Subscript (.Attribute (.Name hn hp') cs' ap') (.Constant (.str k0) kd₀ p₀) q₀) p₃) env) Q E s := by
  have S := F.st
  -- the three objects
  obtain ⟨M0, M1, M2, rfl⟩ : ∃ M0 M1 M2, L = [M0, M1, M2] := by
    exact map_three hL
  simp only [List.map_cons, List.map_nil, List.cons.injEq, Prod.mk.injEq, and_true] at hL
  refine hide fun Gg kg => ?_
  obtain ⟨⟨rfl, rfl⟩, ⟨rfl, rfl⟩, rfl, rfl⟩ := hL
  refine kg ?_; clear kg Gg
  have hkC : kC₀ = [] ∨ kC₀ = [(cl, fv)] := by
    by_cases q : dt = dc
    · exact .inr (h0a q)
    · exact .inl (h0n q)
  have v0 : valueAt (kC₀ ++ [M0, M1, M2].map fun e => (e.k, e.v)) M0.k = some M0.v := by
    rcases hkC with e | e <;> rw [e] <;> simp [valueAt, hkd.1]
  have v1 : valueAt (kC₀ ++ [M0, M1, M2].map fun e => (e.k, e.v)) M1.k = some M1.v := by
    rcases hkC with e | e <;> rw [e] <;> simp [valueAt, hkd.2.1, hkd.2.2]
  refine plainObj_wpAny_Assign_Attribute (s_hostItem O.toOrc S.good S.eo.kind F.host F.var hno hfo hf' v0 fun tk => ?_) (by rfl)
  have k₁ := kTk s tk
  have S₁ := S.keeps k₁
  refine s_hostItem (s := { s with toks := tk }) O.toOrc S₁.good S₁.eo.kind F.host F.var hno hfo hf v1 fun tk₂ => ?_
  have m0 : M0 ∈ [M0, M1, M2] := by simp
  have m1 : M1 ∈ [M0, M1, M2] := by simp
  have m2 : M2 ∈ [M0, M1, M2] := by simp
  have hdis := F.disj
  have d01 := (List.pairwise_cons.mp hdis).1 M1 (by simp)
  have d12 := (List.pairwise_cons.mp (List.pairwise_cons.mp hdis).2).1 M2 (by simp)
  have o1 := F.own M1 m1
  have w1 := F.wr M1 m1
  have sep1 := F.sep M1 m1
  have r0 : RelV prog w mg M0.R s.heap M0.v (.inst c M0.fs) := (F.own M0 m0).rel.mono fun b o p e => ⟨e, by
    rcases p with p | p
    · exact p.1
    · exact F.wr M0 m0 b p⟩
  have r2 : RelV prog w mg M2.R s.heap M2.v (.inst c M2.fs) := (F.own M2 m2).rel.mono fun b o p e => ⟨e, by
    rcases p with p | p
    · exact p.1
    · exact F.wr M2 m2 b p⟩
  generalize hD : D.inst c M1.fs = d1 at o1
  generalize hV : M1.v = v1' at o1
  generalize hW : M1.W = W1 at o1
  cases o1 with
  | lst => cases hD
  | inst g1 g2 g3 g4 g5 g6 g7 g8 g9 g10 =>
    rename_i x1 dx1 C1 c1 n1 fs1 es1
    cases hD
    have hW1 : M1.W dx1 := by rw [hW]; exact .inr rfl
    have hW1x : M1.W x1 := by rw [hW]; exact .inl rfl
    have nR0 : ¬ M0.R dx1 := fun z => d01 _ z (w1 _ hW1)
    have nR2 : ¬ M2.R dx1 := fun z => d12 _ (w1 _ hW1) z
    refine hide fun Gg kg => ?_
    obtain ⟨a1, a2, a3, a4, a5⟩ := sep1 dx1 (w1 _ hW1)
    refine kg ?_; clear kg Gg
    rw [← nmOk.d hpar]
    refine s_setOwn (P := fun b => (M1.R b ∧ ¬ M1.W b) ∨ M0.R b) (s := { s with toks := tk₂ }) S.good.X (O.setO _ _ _ hfop g4) g1 g2 g3 g4 g5 g6 (RelF.mono (fun b o p e => ⟨e, .inl (by rw [hW]; exact p)⟩) g7) g8 g9 g10 (by rw [nmOk.d hpar, nmOk.e hpar]) hfl (r0.mono fun b o p e => ⟨e, .inr p⟩)
      (fun z => by rcases z with z | z; exact z.2 hW1; exact nR0 z) fun s₃ hsame₃ hs₃ ha₃ ow₃ => ?_
    refine hide fun Gg kg => ?_
    obtain ⟨h₃, t₃, rfl⟩ := hsame₃
    have hk₃ : ∀ b o, b ≠ dx1 → s.heap.get? b = some o → h₃.get? b = some o := fun b o q e => (hs₃.2 b q).trans e
    have hal₃ : ∀ b, (s.heap.get? b).isSome = true → (h₃.get? b).isSome = true := alive_but hs₃ ha₃
    have H₃ := F.host.keep (h' := h₃) fun b o r e => hk₃ b o (fun q => a3 (q ▸ r)) e
    have var₃ : VarAt env h₃ hn (.ref x) := F.var.other hs₃ (W := fun _ => False) fun z => S₀ _ z a2
    have toP : ∀ {M : Mk} {b}, M ∈ [M0, M1, M2] → M.R b → P₀ b := fun hm r => (F.sep _ hm _ r).2.1
    have R0 : RelV prog w mg P₀ h₃ M0.v (.inst c M0.fs) := r0.mono fun b o p e => ⟨hk₃ b o (fun q => nR0 (q ▸ p)) e, toP m0 p⟩
    have R2 : RelV prog w mg P₀ h₃ M2.v (.inst c M2.fs) := r2.mono fun b o p e => ⟨hk₃ b o (fun q => nR2 (q ▸ p)) e, toP m2 p⟩
    have R1 : RelV prog w mg P₀ h₃ (.ref x1) (.inst c (put M1.fs np (.inst c M0.fs))) := ow₃.rel.mono fun b o p e => ⟨e, by
      rcases p with (p | p) | p
      · exact toP m1 p.1
      · exact toP m0 p
      · exact toP m1 (w1 b (by rw [hW]; exact p))⟩
    have rks : RelE prog w mg P₀ h₃ ([M0, M1, M2].map fun e => (e.k, e.v)) (klsD c np M0.k M1.k M2.k M0.fs M1.fs M2.fs) := by
      simp only [List.map_cons, List.map_nil]
      rw [hV]
      exact .cons R0 (.cons R1 (.cons R2 .nil))
    have rtop : RelV prog w mg P₀ h₃ fv (.top lc) := .top hfv
    have hdct : ∀ {a : Addr} {kv : List (Str × Value)} {es : List (Str × D)}, RH a → (a == sysModules) = false → h₃.DictOf (PySem.strKind prog w) a kv → RelE prog w mg P₀ h₃ kv es → RelV prog w mg P₀ h₃ (.ref a) (.dct es) := fun r s d e => .dct (hRH _ r).1 s d e
    have hrel : ∃ al, RelV prog w mg P₀ h₃ (.ref x) (hostD al cl lc (klsD c np M0.k M1.k M2.k M0.fs M1.fs M2.fs)) := by
      have mkI : ∀ (dT dC : List (Str × D)), RelV prog w mg P₀ h₃ (.ref dt) (.dct dT) → RelV prog w mg P₀ h₃ (.ref dc) (.dct dC) → RelV prog w mg P₀ h₃ (.ref x) (.inst nHost [(nTools, .dct dT), (nClasses, .dct dC)]) := fun dT dC a b =>
        .inst (hRH _ H₃.rx).1 (hRH _ H₃.rdx).1 (ox := instObj CH dx) rfl H₃.cls ⟨H₃.at_, rfl, rfl, H₃.dct⟩ (.cons H₃.tools a (.cons H₃.classes b .nil)) fun b hb hex => H₃.only b (hb (nTools, .dct dT) (by simp)) (hb (nClasses, .dct dC) (by simp)) hex
      by_cases q : dt = dc
      · have e1 := H₃.one q
        have hT := H₃.dT
        have hC := H₃.dC
        rw [e1] at hT
        rw [h0a q] at hT hC
        exact ⟨true, mkI _ _ (hdct H₃.rt H₃.sT hT (.cons rtop rks)) (hdct H₃.rc H₃.sC hC (.cons rtop rks))⟩
      · have e1 := F.hT q
        have hT := H₃.dT
        have hC := H₃.dC
        rw [e1] at hT
        rw [h0n q] at hC
        exact ⟨false, mkI _ _ (hdct H₃.rt H₃.sT hT (.cons rtop .nil)) (hdct H₃.rc H₃.sC hC rks)⟩
    obtain ⟨al, hrel⟩ := hrel
    refine kg ?_; clear kg Gg
    have S₃ : St prog w K mg mb h₀ env sc P₀ (fun _ => False) { s with heap := h₃, toks := t₃ } ρ none :=
      S.butA (s' := { s with heap := h₃, toks := t₃ }) hk₃ (fun z => a1 z) (fun z => S₀ _ z a2) (hh _ a4) (fun b p => (F.sub b p).1) (fun b e => Fr₀ b (by
        cases z : hs.get? b with
        | none => rfl
        | some o => have := hal₃ b (hhs b (isSome_of z)); dsimp only at e; rw [e] at this; cases this)) S₀
    refine hQ _ al ⟨h₃, t₃, rfl⟩ { S₃ with eo := ⟨S₃.eo.kind, S₃.eo.glob, S₃.eo.blt, fun y d' hy hyd hl => ?_, S₃.eo.cells, S₃.eo.globs, S₃.eo.cel⟩ }
    rw [look_put] at hl
    by_cases q : enc y = enc hn
    · rw [if_pos q] at hl
      cases hl
      have : y = hn := by rw [← hyd, q, hde]
      subst this
      exact ⟨_, var₃, hrel⟩
    · rw [if_neg q] at hl
      exact S₃.eo.var y d' hy hyd hl
end
end Mine
end

section
open PySem PySem.W PyProof.Rows PySem.Calls
set_option maxRecDepth 100000
namespace Mine
section
variable {prog : Program} {w : World} {K : Frag} {mg mb : Str → Option Value} {P P' W W' : Addr → Prop} {A : Around} {E : Value → Shared → Prop} {s s' : Shared} {env : Env} {sc : Scope} {h h' h₀ base : Heap} {ρ ρ' : List (Nat × D)} {C : Addr}
variable {Γ : Nat → List D → Option D} {Γm : Nat → D → List D → Option D} {isi : D → Nat → Option Bool} {kn : Nat → Bool} {fo : Nat → Nat → Bool} {n : Nat} {Γk : Nat → List D → Option (List (Nat × D))} {Γu : Nat → Nat → List (Nat × D) → List D → Option (List (Nat × D))}

/-- all but the frame's own dict stays, that one up to its slots -/
theorem St.slots (S : St prog w K mg mb h₀ env sc P (fun _ => False) s ρ none) (hb : ∀ b o, b ≠ env.locals → s.heap.get? b = some o → h'.get? b = some o) (hu : s.heap.UpToSlots h') {tk : Nat} : St prog w K mg mb h₀ env sc P (fun _ => False) { s with heap := h', toks := tk } ρ none := by
  have n0 : ∀ b o, h₀.get? b = some o → b ≠ env.locals := fun b o e q => by rw [q, S.gn _ (.inl rfl)] at e; cases e
  have hns : ∀ m, s.heap.Ns env.locals m → h'.Ns env.locals m := fun m e => hu.ns e
  have al : ∀ b, (s.heap.get? b).isSome = true → (h'.get? b).isSome = true := fun b e => by
    by_cases q : b = env.locals
    · refine hide fun Gg kg => ?_
      obtain ⟨m, hm⟩ := S.ns
      obtain ⟨_, _, _, q', _⟩ := hns m hm
      refine kg ?_; clear kg Gg
      rw [q]; exact isSome_of q'
    · obtain ⟨o, ho⟩ := Option.isSome_iff_exists.mp e
      exact isSome_of (hb b o q ho)
  have hcell : ∀ y c v, (y, c) ∈ env.cells → s.heap.IsCell c v → h'.IsCell c v := fun y c v hm e => by
    refine hide fun Gg kg => ?_
    obtain ⟨oc, hoc, r⟩ := e
    refine kg ?_; clear kg Gg
    exact ⟨oc, hb c oc (S.ne y c hm) hoc, r⟩
  have nPL : ∀ b, P b → b ≠ env.locals := fun b p q => S.nP b (.inl q) p
  refine ⟨S.gd, fun b o e => hb b o (n0 b o e) (S.gk b o e), S.gn, S.fresh.alive al, S.nP, ⟨S.eo.kind, S.eo.glob, S.eo.blt, fun y d hy hyd hl => ?_, S.eo.cells, S.eo.globs, S.eo.cel⟩, S.scope, S.ns.imp hns, fun y c hc => (S.cell y c hc).imp fun v e => hcell y c v hc e, S.apart, S.ne, S.own⟩
  refine hide fun Gg kg => ?_
  obtain ⟨u, a, b⟩ := S.eo.var y d hy hyd hl
  refine kg ?_; clear kg Gg
  refine ⟨u, ?_, b.mono fun b o p e => ⟨hb b o (nPL b p) e, p⟩⟩
  rcases a with ⟨a', m, b', c⟩ | ⟨a', c, b', d'⟩
  · exact .inl ⟨a', m, hns m b', c⟩
  · exact .inr ⟨a', c, b', hcell y c u (PySem.mem_of_lookup b') d'⟩

/-- `if told(..) != e: return ..` where both are the same word -/
theorem s_toldIf (O : Orc prog w K mg mb Γ Γm isi kn fo n) (hA : AOK (n + 2) A) (hfr : A.frames = some [env]) (hf : env.frame = some env.locals) {c f tnum : Nat} {fI : Addr} (Z : ExcIs K mg mb c C fI) {v0 : Value} {fn : Fn} {ps tps : List PE} (FI : ToldIs K v0 fn f c ps) {args ds : List D} {out : XO} {m : Str}
    (hρ : argD fn.ps fn.dfl args = some ρ') (hds : evEs Γ Γm isi kn fo ps ρ' = some ds) (hX : XCallee prog w K mg mb C n f ds out) (hm : toldD out = some m)
    {tn : Str} {tp q pc p : Pos} {l : List Expr} {e : Expr} {pe : PE} {body : List Stmt} {Q : Flow → Shared → Prop} (S : St prog w K mg mb h₀ env sc P (fun _ => False) s ρ none)
    (hg : isGlob sc tn = true) (hgn : nmOk tn tnum = true) (hgo : nameOk tn = true) (hgl : GlobV mg mb (dec tnum) v0) (rl : RepL sc l tps) (hargs : evEs Γ Γm isi kn fo tps ρ = some args) (re : Rep sc e pe) (he : evE Γ Γm isi kn fo pe ρ = some (.str m))
    (hQ : ∀ s', St prog w K mg mb h₀ env sc P (fun _ => False) s' ρ none → (∃ h t, s' = { s with heap := h, toks := t }) → Q .next s') :
    wpAny (model prog w) A (exec (.If (.Compare (.Call (.Name tn tp) l [] q) [.NotEq] [e] pc) body [] p) env) Q E s := by
  have hA' : AOK n A := hA.le (by omega)
  have hgl' : GlobV mg mb tn v0 := by rw [← nmOk.d hgn]; exact hgl
  refine wpAny_If (wpAny_isTrue_Compare1 (wpAny_Call_ofName (s_glob S.good S.eo.kind S.eo.glob S.eo.blt (S.eo.globs _ (isGlob_look hg)) hgl' hgo ?_)) (re.marks _))
  refine callWith_of (P := Gd K mg mb) (by rw [star_plain rl]; rfl) FI.fn.keep (args_rep rl ((mainL O rl).1 env ρ P A s _ _ args _ hA' S.good S.fresh S.eo hargs fun vs s₁ k rv => ⟨S.good.keeps (kp k), ?_⟩))
  have S₁ := S.keeps k
  refine hide fun Gg kg => ?_
  obtain ⟨ml, oL, esL, epL, hLo, hLd, _⟩ := S₁.ns
  refine kg ?_; clear kg Gg
  have hbase : ∀ b o, b ≠ env.locals → s₁.heap.get? b = some o → (hideAll s₁.heap [env.locals]).get? b = some o := fun b o q e => hideAll_get _ e (by simpa using q)
  have n0 : ∀ b o, h₀.get? b = some o → b ≠ env.locals := fun b o e q => by rw [q, S₁.gn _ (.inl rfl)] at e; cases e
  refine told_ok (base := hideAll s₁.heap [env.locals]) (P := P) (outer := [env]) O Z FI hρ hds hX hm hA hfr (fun b o e => of_hideAll _ e)
    ⟨by rw [S₁.eo.kind]; decide, ⟨env.locals, oL, hf, hideAll_none _ (by simp), hLo, fun vs e => by rw [hLd] at e; cases e⟩, trivial⟩
    (S₁.gd.keeps fun b o e => hbase b o (n0 b o e) (S₁.gk b o e)) S₁.fresh rv fun h' tk tk' hst hup => ?_
  have S₂ := S₁.slots (h' := h') (fun b o q e => hst b o (hbase b o q e)) hup (tk := tk)
  refine hide fun Gg kg => ?_
  obtain ⟨h₁, t₁, rfl, _⟩ := id k
  refine kg ?_; clear kg Gg
  refine (mainE O re).1 env ρ P A { s with heap := h', toks := tk } _ _ (.str m) hA' S₂.good S₂.fresh S₂.eo he fun v s₃ p₃ => ?_
  have S₃ := S₂.keeps p₃.1
  have hcmp : cmpD .NotEq (.str m) (.str m) = some false := by simp [cmpD, eqD]
  refine s_cmp hcmp (.str m tk') p₃.2 (by have := hA.2.2; omega) fun tk₄ => wpAny_truthy_bool ?_
  rw [if_neg Bool.false_ne_true]
  refine wpAny_execs_nil ?_
  refine hide fun Gg kg => ?_
  obtain ⟨h₃, t₃, rfl, _⟩ := id p₃.1
  refine kg ?_; clear kg Gg
  exact hQ _ (S₃.keeps (kTk _ tk₄)) ⟨h₃, tk₄, rfl⟩
end
end Mine
end

section
open PySem PySem.W PyProof.Rows PySem.Calls
set_option maxRecDepth 100000
set_option genSizeOf false
set_option genInjectivity false
namespace Mine

/-- law's body in parts -/
structure LawP where
  A : List PS
  B : List PS
  C : List PS
  it : PE
  ie : PE
  ps : List PE
  tps : List PE
  e : PE
  k0 : Str
  k1 : Str
  cl : Str
noncomputable def nKlass : Nat := 323940873075
noncomputable def nLC : Nat := 450624087419601459180403
noncomputable def nTold : Nat := 495466423873814489537076584908811364
noncomputable def nPar : Nat := 123563833388660

inductive LawShape : Scope → List Stmt → LawP → Prop
  | mk {sc stA stB stC Hn hp q6 p6 hp7 tl ap7 kd7 p7a p7b lc p7c p7d px it hp8 cs ap8 ie p8a kc p8b l q8 p8c p8 hp9 cs9 ap9 kd9 p9a q9 par p9b hp9' cs9' ap9' kd9' p9c q9' p9d tn tp tl13 q13 e13 p13a body p13 Hp} {A B C : List PS} {pit pie pe : PE} {ps tps : List PE} {k0 k1 cl : Str} :
    RepB sc stA A → RepB sc stB B → RepB sc stC C → Rep sc it pit → Rep sc ie pie → RepL sc l ps → RepL sc tl13 tps → Rep sc e13 pe →
    stOk sc ("host" : Str) = true → isVar sc ("host" : Str) = true → isGlob sc Hn = true → nmOk Hn nHost = true → nameOk Hn = true → nmOk tl nTools = true → isGlob sc lc = true → nmOk lc nLC = true → nameOk lc = true →
    stOk sc ("key" : Str) = true → nmOk cs nClasses = true → isGlob sc kc = true → nmOk kc nKlass = true → nameOk kc = true → nmOk cs9 nClasses = true → nmOk cs9' nClasses = true → nmOk par nPar = true → isGlob sc tn = true → nmOk tn nTold = true → nameOk tn = true →
    LawShape sc (stA ++ (.Assign [.Name ("host" : Str) hp] (.Call (.Name Hn Hp) [] [] q6) p6 :: .Assign [.Subscript (.Attribute (.Name ("host" : Str) hp7) tl ap7) (.Constant (.str cl) kd7 p7a) p7b] (.Name lc p7c) p7d ::
      .For (.Name ("key" : Str) px) it [.Assign [.Subscript (.Attribute (.Name ("host" : Str) hp8) cs ap8) ie p8a] (.Call (.Name kc p8b) l [] q8) p8c] [] p8 ::
      .Assign [.Attribute (.Subscript (.Attribute (.Name ("host" : Str) hp9) cs9 ap9) (.Constant (.str k1) kd9 p9a) q9) par p9b] (.Subscript (.Attribute (.Name ("host" : Str) hp9') cs9' ap9') (.Constant (.str k0) kd9' p9c) q9') p9d ::
      (stB ++ (.If (.Compare (.Call (.Name tn tp) tl13 [] q13) [.NotEq] [e13] p13a) body [] p13 :: stC)))) ⟨A, B, C, pit, pie, ps, tps, pe, k0, k1, cl⟩

theorem law_mk {sc : Scope} {stA stB stC : List Stmt} {Hn : Str} {hp q6 p6 hp7} {tl : Str} {ap7 kd7 p7a p7b} {lc : Str} {p7c p7d px it hp8} {cs : Str} {ap8 ie p8a} {kc : Str} {p8b l q8 p8c p8 hp9} {cs9 : Str} {ap9 kd9 p9a q9} {par : Str} {p9b hp9'} {cs9' : Str} {ap9' kd9' p9c q9' p9d} {tn : Str} {tp tl13 q13 e13 p13a body p13 Hp} {pit pie pe : PE} {ps tps : List PE} {k0 k1 cl hn hn7 hn8 hn9 hn9' kx : Str}
    (hs : (hn == ("host" : Str) && hn7 == ("host" : Str) && hn8 == ("host" : Str) && hn9 == ("host" : Str) && hn9' == ("host" : Str) && kx == ("key" : Str)) = true)
    (hc : (stOk sc hn && isVar sc hn && isGlob sc Hn && nmOk Hn nHost && nameOk Hn && nmOk tl nTools && isGlob sc lc && nmOk lc nLC && nameOk lc &&
      stOk sc kx && nmOk cs nClasses && isGlob sc kc && nmOk kc nKlass && nameOk kc && nmOk cs9 nClasses && nmOk cs9' nClasses && nmOk par nPar && isGlob sc tn && nmOk tn nTold && nameOk tn) = true)
    (h1 : Rep sc it pit) (h2 : Rep sc ie pie) (h3 : RepL sc l ps) (h4 : RepL sc tl13 tps) (h5 : Rep sc e13 pe) :
    LawShape sc (stA ++ (.Assign [.Name hn hp] (.Call (.Name Hn Hp) [] [] q6) p6 :: .Assign [.Subscript (.Attribute (.Name hn7 hp7) tl ap7) (.Constant (.str cl) kd7 p7a) p7b] (.Name lc p7c) p7d ::
      .For (.Name kx px) it [.Assign [.Subscript (.Attribute (.Name hn8 hp8) cs ap8) ie p8a] (.Call (.Name kc p8b) l [] q8) p8c] [] p8 ::
      .Assign [.Attribute (.Subscript (.Attribute (.Name hn9 hp9) cs9 ap9) (.Constant (.str k1) kd9 p9a) q9) par p9b] (.Subscript (.Attribute (.Name hn9' hp9') cs9' ap9') (.Constant (.str k0) kd9' p9c) q9') p9d ::
      (stB ++ (.If (.Compare (.Call (.Name tn tp) tl13 [] q13) [.NotEq] [e13] p13a) body [] p13 :: stC)))) ⟨cB sc stA, cB sc stB, cB sc stC, pit, pie, ps, tps, pe, k0, k1, cl⟩ := by
  simp only [Bool.and_eq_true, beq_iff_eq] at hs
  obtain ⟨⟨⟨⟨⟨rfl, rfl⟩, rfl⟩, rfl⟩, rfl⟩, rfl⟩ := hs
  simp only [Bool.and_eq_true] at hc
  exact .mk (cB_sound _ _) (cB_sound _ _) (cB_sound _ _) h1 h2 h3 h4 h5 hc.1.1.1.1.1.1.1.1.1.1.1.1.1.1.1.1.1.1.1 hc.1.1.1.1.1.1.1.1.1.1.1.1.1.1.1.1.1.1.2 hc.1.1.1.1.1.1.1.1.1.1.1.1.1.1.1.1.1.2 hc.1.1.1.1.1.1.1.1.1.1.1.1.1.1.1.1.2 hc.1.1.1.1.1.1.1.1.1.1.1.1.1.1.1.2 hc.1.1.1.1.1.1.1.1.1.1.1.1.1.1.2 hc.1.1.1.1.1.1.1.1.1.1.1.1.1.2 hc.1.1.1.1.1.1.1.1.1.1.1.1.2 hc.1.1.1.1.1.1.1.1.1.1.1.2
    hc.1.1.1.1.1.1.1.1.1.1.2 hc.1.1.1.1.1.1.1.1.1.2 hc.1.1.1.1.1.1.1.1.2 hc.1.1.1.1.1.1.1.2 hc.1.1.1.1.1.1.2 hc.1.1.1.1.1.2 hc.1.1.1.1.2 hc.1.1.1.2 hc.1.1.2 hc.1.2 hc.2
noncomputable def lawOf (sc : Scope) (st : List Stmt) : Option {p : LawP // LawShape sc st p} := match st with
  | s0 :: s1 :: s2 :: s3 :: s4 :: s5 :: .Assign [.Name hn _] (.Call (.Name Hn _) [] [] _) _ :: .Assign [.Subscript (.Attribute (.Name hn7 _) tl _) (.Constant (.str cl) _ _) _] (.Name lc _) _ ::
      .For (.Name kx _) it [.Assign [.Subscript (.Attribute (.Name hn8 _) cs _) ie _] (.Call (.Name kc _) l [] _) _] [] _ ::
      .Assign [.Attribute (.Subscript (.Attribute (.Name hn9 _) cs9 _) (.Constant (.str k1) _ _) _) par _] (.Subscript (.Attribute (.Name hn9' _) cs9' _) (.Constant (.str k0) _ _) _) _ ::
      s10 :: s11 :: s12 :: .If (.Compare (.Call (.Name tn _) tl13 [] _) [.NotEq] [e13] _) _ [] _ :: stC =>
    whn (hn == ("host" : Str) && hn7 == ("host" : Str) && hn8 == ("host" : Str) && hn9 == ("host" : Str) && hn9' == ("host" : Str) && kx == ("key" : Str)) fun hs =>
    whn (stOk sc hn && isVar sc hn && isGlob sc Hn && nmOk Hn nHost && nameOk Hn && nmOk tl nTools && isGlob sc lc && nmOk lc nLC && nameOk lc &&
      stOk sc kx && nmOk cs nClasses && isGlob sc kc && nmOk kc nKlass && nameOk kc && nmOk cs9 nClasses && nmOk cs9' nClasses && nmOk par nPar && isGlob sc tn && nmOk tn nTold && nameOk tn) fun hc =>
    (cP 40 sc it).bind fun a => (cP 40 sc ie).bind fun b => (cL (cP 40 sc) l).bind fun c => (cL (cP 40 sc) tl13).bind fun d => (cP 40 sc e13).map fun e =>
      ⟨⟨cB sc [s0, s1, s2, s3, s4, s5], cB sc [s10, s11, s12], cB sc stC, a.1, b.1, c.1, d.1, e.1, k0, k1, cl⟩, law_mk (stA := [s0, s1, s2, s3, s4, s5]) (stB := [s10, s11, s12]) hs hc a.2 b.2 c.2 d.2 e.2⟩
  | _ => none
end Mine
end

section
open PySem PySem.W PyProof.Rows PySem.Calls
set_option maxRecDepth 100000
namespace Mine
section
variable (Γ : Nat → List D → Option D) (Γm : Nat → D → List D → Option D) (isi : D → Nat → Option Bool) (kn : Nat → Bool) (fo : Nat → Nat → Bool)
  (Γk : Nat → List D → Option (List (Nat × D))) (Γu : Nat → Nat → List (Nat × D) → List D → Option (List (Nat × D)))
noncomputable def evB0 : List PS → List (Nat × D) → Option (List (Nat × D))
  | [], ρ => some ρ
  | p :: r, ρ => match evS Γ Γm isi kn fo Γk Γu p ρ none with
    | some (.next ρ' none) => evB0 r ρ'
    | _ => none
end
section
variable {prog : Program} {w : World} {K : Frag} {mg mb : Str → Option Value} {P P' W W' : Addr → Prop} {A : Around} {E : Value → Shared → Prop} {s s' : Shared} {env : Env} {sc : Scope} {h h' h₀ base : Heap} {ρ ρ' : List (Nat × D)} {C : Addr}
variable {Γ : Nat → List D → Option D} {Γm : Nat → D → List D → Option D} {isi : D → Nat → Option Bool} {kn : Nat → Bool} {fo : Nat → Nat → Bool} {n : Nat} {Γk : Nat → List D → Option (List (Nat × D))} {Γu : Nat → Nat → List (Nat × D) → List D → Option (List (Nat × D))}

theorem noW {ρ : List (Nat × D)} (S : St prog w K mg mb h₀ env sc P W s ρ none) : W = fun _ => False := by
  funext b
  have := S.own b
  simpa using this
/-- a run of plain statements, the rest behind it -/
theorem seqB (O : Orc2 prog w K mg mb Γ Γm isi kn fo Γk Γu n) (hA : AOK n A) {r : List Stmt} {Q : Flow → Shared → Prop} : ∀ {l : List Stmt} {pl : List PS}, RepB sc l pl → ∀ {P : Addr → Prop} {s : Shared} {ρ ρ' : List (Nat × D)}, St prog w K mg mb h₀ env sc P (fun _ => False) s ρ none → evB0 Γ Γm isi kn fo Γk Γu pl ρ = some ρ' →
    (∀ s' P', (∀ b, P' b → P b) → (∃ h t, s' = { s with heap := h, toks := t }) → St prog w K mg mb h₀ env sc P' (fun _ => False) s' ρ' none → wpAny (model prog w) A (execs r env) Q E s') → wpAny (model prog w) A (execs (l ++ r) env) Q E s := by
  intro l pl r
  induction l generalizing pl with
  | nil =>
    cases r
    intro P s ρ ρ' S ev hQ
    have ev := Option.some.inj ev
    subst ev
    exact hQ s P (fun _ p => p) ⟨_, _, rfl⟩ S
  | cons st l ih =>
    cases r with | cons rs rb => ?_
    intro P s ρ ρ' S ev hQ
    simp only [evB0] at ev
    refine wpAny_execs_cons ?_
    split at ev
    · rename_i ρ₁ q
      refine wpAny_mono (mainS O rs _ _ _ _ _ _ _ _ _ hA S q) (fun f s₁ x => ?_) fun _ _ z => z.elim
      obtain ⟨P₁, W₁, h1, h2, h3⟩ := x
      cases f with
      | next =>
        have hW := noW h3
        subst hW
        obtain ⟨a, b, rfl⟩ := h2.same
        exact ih rb h3 ev fun s' P' hP hs S' => hQ s' P' (fun b p => h1 b (hP b p)) (by obtain ⟨c, d, rfl⟩ := hs; exact ⟨c, d, rfl⟩) S'
      | _ => exact h3.elim
    · cases ev

theorem St.weaken {ρ₂ : List (Nat × D)} (S : St prog w K mg mb h₀ env sc P W s ρ none) (e : ∀ y d, look ρ₂ y = some d → look ρ y = some d) : St prog w K mg mb h₀ env sc P W s ρ₂ none :=
  { S with eo := ⟨S.eo.kind, S.eo.glob, S.eo.blt, fun y d a b c => S.eo.var y d a b (e _ _ c), S.eo.cells, S.eo.globs, S.eo.cel⟩ }
end
end Mine
end

section
open PySem PySem.W PyProof.Rows PySem.Calls
set_option maxRecDepth 100000
namespace Mine

noncomputable def nHv : Nat := 1752134516
noncomputable def nKey : Nat := 7038329
noncomputable def nScript : Nat := 126870958469236

section
variable (Γ : Nat → List D → Option D) (Γm : Nat → D → List D → Option D) (isi : D → Nat → Option Bool) (kn : Nat → Bool) (fo : Nat → Nat → Bool)
  (Γk : Nat → List D → Option (List (Nat × D))) (Γu : Nat → Nat → List (Nat × D) → List D → Option (List (Nat × D)))
/-- what of law does not hang on its argument -/
structure LawFix (p : LawP) (names : List Str) (low : Str → Str) (dsOf : Str → List D) (kfs : Str → List (Nat × D)) (fH : List (Nat × D)) : Prop where
  host : Γk nHost [] = some fH
  ht : fH.lookup nTools = some (.dct [])
  hc : fH.lookup nClasses = some (.dct [])
  hex : ∀ q ∈ fH, q.1 = nTools ∨ q.1 = nClasses ∨ exempt (dec q.1) = true
  it : ∀ ρ, evE Γ Γm isi kn fo p.it ρ = some (.tup (names.map .str))
  turn : ∀ nm ∈ names, ∀ ρ'', evE Γ Γm isi kn fo p.ie (put ρ'' nKey (.str nm)) = some (.str (low nm)) ∧ evEs Γ Γm isi kn fo p.ps (put ρ'' nKey (.str nm)) = some (dsOf nm) ∧ allStr (dsOf nm) = true ∧ Γk nKlass (dsOf nm) = some (kfs nm)
  nd : ([p.cl] ++ names.map low).Nodup
  three : ∃ n0 n1 n2, names = [n0, n1, n2] ∧ low n0 = p.k0 ∧ low n1 = p.k1 ∧ (kfs n1).length ≤ 100
  f1 : fo nHost nTools = true
  f2 : fo nHost nClasses = true
  f3 : fo nKlass nPar = true
noncomputable def hostOf (p : LawP) (names : List Str) (low : Str → Str) (kfs : Str → List (Nat × D)) (al : Bool) : D := match names with
  | [n0, n1, n2] => hostD al p.cl nLC (klsD nKlass nPar (low n0) (low n1) (low n2) (kfs n0) (kfs n1) (kfs n2))
  | _ => .none
/-- what of law hangs on its argument -/
structure LawRun (Γx : Nat → List D → Option XO) (p : LawP) (fT : Fn) (tps : List PE) (f : Nat) (host : Bool → D) (xs : List Int) : Prop where
  it : ∃ ρ5, evB0 Γ Γm isi kn fo Γk Γu p.A [(nScript, .lst (xs.map .int))] = some ρ5 ∧ look ρ5 nHv = none ∧ look ρ5 nKey = none ∧ ∀ al, ∃ ρ12 args ρt ds out m, evB0 Γ Γm isi kn fo Γk Γu p.B (put ρ5 nHv (host al)) = some ρ12 ∧
    evEs Γ Γm isi kn fo p.tps ρ12 = some args ∧ argD fT.ps fT.dfl args = some ρt ∧ evEs Γ Γm isi kn fo tps ρt = some ds ∧ Γx f ds = some out ∧ toldD out = some m ∧ evE Γ Γm isi kn fo p.e ρ12 = some (.str m) ∧ evB Γ Γm isi kn fo Γk Γu p.C ρ12 none = some (.ret (.bool true))
end

section
variable {prog : Program} {w : World} {K : Frag} {mg mb : Str → Option Value} {P P' W W' : Addr → Prop} {A : Around} {E : Value → Shared → Prop} {s s' : Shared} {env : Env} {sc : Scope} {h h' h₀ base : Heap} {ρ ρ' : List (Nat × D)} {C : Addr}
variable {Γ : Nat → List D → Option D} {Γm : Nat → D → List D → Option D} {isi : D → Nat → Option Bool} {kn : Nat → Bool} {fo : Nat → Nat → Bool} {n : Nat} {Γk : Nat → List D → Option (List (Nat × D))} {Γu : Nat → Nat → List (Nat × D) → List D → Option (List (Nat × D))}
variable {Γx : Nat → List D → Option XO}

theorem law_walk (O : Orc2 prog w K mg mb Γ Γm isi kn fo Γk Γu n) (OX : ∀ f ds out, Γx f ds = some out → XCallee prog w K mg mb C n f ds out) {fI : Addr} (Z : ExcIs K mg mb nCF C fI) {vT vL : Value} {fT fL : Fn} {tps : List PE} {f : Nat} (FT : ToldIs K vT fT f nCF tps) (hgT : GlobV mg mb (dec nTold) vT)
    (FL : FnIs K vL fL) (hps : fL.ps = [nScript]) (hdfl : fL.dfl = []) {p : LawP} (hsh : ∀ a oc od fd sl st, vL = .ref a → K.lookup a = some ⟨oc, od, .func fd, sl⟩ → fd.body = .stmts st → LawShape fd.scope st p) {fv : Value} (hfv : mg (dec nLC) = some fv)
    {names : List Str} {low : Str → Str} {dsOf : Str → List D} {kfs : Str → List (Nat × D)} {fH : List (Nat × D)} (X : LawFix Γ Γm isi kn fo Γk p names low dsOf kfs fH) {xs : List Int} (R : LawRun Γ Γm isi kn fo Γk Γu Γx p fT tps f (hostOf p names low kfs) xs)
    (hA : AOK (n + 3) A) (hfr : A.frames = some []) (G : Gd K mg mb s.heap) {a : Addr} {vs : List Value} (hl : s.heap.IsList a vs.toArray) (hI : IntsAre vs xs) {Q : Value → Shared → Prop}
    (hQ : ∀ h' t, (∀ b o, s.heap.get? b = some o → h'.get? b = some o) → Q (.bool true) { s with heap := h', toks := t }) : wpAny (model prog w) A (call vL [.ref a]) Q E s := by
  refine hide fun Gg kg => ?_
  obtain ⟨ρ5, ev5, nh, nk, R⟩ := R.it
  refine kg ?_; clear kg Gg
  have rl : RelL prog w mg (fun _ => True) s.heap [.ref a] [.lst (xs.map .int)] := .cons (.lst trivial hl (by
    have : ∀ {vs : List Value} {xs : List Int}, IntsAre vs xs → RelL prog w mg (fun _ => True) s.heap vs (xs.map .int) := by
      intro vs xs h
      induction h with
      | nil => exact .nil
      | cons t _ _ ih => exact .cons (.int _ _) ih
    exact this hI)) .nil
  have hρ : argD fL.ps fL.dfl [.lst (xs.map .int)] = some [(nScript, .lst (xs.map .int))] := by rw [hps, hdfl]; rfl
  refine wpAny_call (fn_call (n := n + 2) FL (own := none) (P := fun _ => True) (W := fun _ => False) (h₀ := s.heap) (nps := fL.ps) hA G (fun _ _ e => e) (fun _ _ => trivial) rfl rl hρ (fun _ h => h.elim) (fun _ h => h) fun env sc st P₁ s₁ hfd hfe rep hsame hkeep hP₁ hWr S => ?_)
  refine hide fun Gg kg => ?_
  obtain ⟨a', oc, od, fd, sl, e1, e2, rfl, e3⟩ := hfd
  refine kg ?_; clear kg Gg
  have sh := hsh _ _ _ _ _ _ e1 e2 e3
  cases sh with
  | mk rA rB rC rit rie rl8 rtl re c1 c2 c3 c4 c5 c6 c7 c8 c9 c10 c11 c12 c13 c14 c15 c16 c17 c18 c19 c20 =>
    rename_i k0 k1 cl R0
    have hA' : AOK (n + 2) (A.deeper env) := hA.deeper env
    have hAn : AOK n (A.deeper env) := hA'.le (by omega)
    have hfr' : (A.deeper env).frames = some [env] := Around.frames_deeper hfr
    have eH : enc ("host" : Str) = nHv := by decide +kernel
    have eK : enc ("key" : Str) = nKey := by decide +kernel
    have dH : dec (enc ("host" : Str)) = ("host" : Str) := by decide +kernel
    have dK : dec (enc ("key" : Str)) = ("key" : Str) := by decide +kernel
    have oH : nameOk ("host" : Str) = true := by decide +kernel
    refine seqB O hAn rA S ev5 fun s₅ P₅ hP₅ hs₅ S₅ => ?_
    have nW₅ : ∀ b, P₅ b → ¬ Wr env (fun _ => False) b := fun b p z => S₅.nP b z p
    have hh₅ : ∀ b, s₅.heap.get? b = none → s.heap.get? b = none := fun b e => by
      cases z : s.heap.get? b with
      | none => rfl
      | some o => rw [S₅.gk b o z] at e; cases e
    refine wpAny_execs_cons (s_host O S₅ hAn c1 dH (by rw [eH]; exact nh) c3 c4 c5 X.host X.ht X.hc X.hex fun s₆ x dx CH od dt dc RH hs₆ hR₆ S₆ H₆ v₆ k₆ => ?_)
    have hRH : ∀ b, RH b → P₅ b ∧ s₅.heap.get? b = none := fun b r => ⟨(hR₆ b r).1, (hR₆ b r).2.1⟩
    refine wpAny_execs_cons (s_tool O.toOrc S₆ hAn H₆ (fun b r => ⟨fun z => z.2 r, nW₅ b (hR₆ b r).1, hh₅ b (hR₆ b r).2.1⟩) v₆ oH X.f1 c6 c7 c8 c9 hfv (by simp) fun s₇ kC' hs₇ S₇ H₇ e1 e2 v₇ k₇ => ?_)
    have al₇ : ∀ b, (s₅.heap.get? b).isSome = true → (s₇.heap.get? b).isSome = true := fun b e => by
      by_cases z : Wr env (fun _ => False) b
      · exact S₇.aliveWr b z
      · obtain ⟨o, ho⟩ := Option.isSome_iff_exists.mp e
        exact isSome_of (k₇ b o (fun q => by subst q; rw [(hRH _ H₆.rt).2] at ho; cases ho) (k₆ b o z ho))
    have hst : ∀ k : Str, stored ([] : List (Str × Value)) k fv = [(k, fv)] := fun k => stored_new (by simp)
    rw [hst] at H₇ e2
    have F₇ : Fill prog w K mg mb s.heap env fd.scope P₅ s₅.heap RH nKlass x dx CH od dt dc kC' [(cl, fv)] ("host" : Str) [] (fun b => P₅ b ∧ ¬ RH b) ρ5 _ s₇ :=
      ⟨S₇, fun b p => p, by simpa using H₇, fun _ => rfl, v₇, fun e he => (by cases he), fun e he => (by cases he), fun e he => (by cases he), List.Pairwise.nil⟩
    refine hide fun Gg kg => ?_
    obtain ⟨n0, n1, n2, hnm, hk0, hk1, hfl⟩ := X.three
    refine kg ?_; clear kg Gg
    have hkC : kC' = [] ∨ kC' = [(cl, fv)] := by
      by_cases q : dt = dc
      · exact .inr (e2 q)
      · exact .inl (e1 q)
    have ndX := X.nd
    refine wpAny_execs_cons (s_fill O hAn (fun b q => S₅.nP b q) hh₅ hRH (fun b p e => ?_) al₇ F₇ c10 dK (by decide) oH X.f2 c11 c12 c13 c14 rit rl8 rie (X.it ρ5) (fun nm hm ρ'' => by rw [eK]; exact X.turn nm hm ρ'') (by rfl) ?_ ?_ fun s₈ L P₈ ρ8 kT₈ hs₈ hL F₈ hρ8 k₈ => ?_)
    · cases z : s₅.heap.get? b with
      | none => rfl
      | some o => have := al₇ b (isSome_of z); rw [e] at this; cases this
    · rcases hkC with q | q
      · rw [q]
        rw [List.singleton_append, List.nodup_cons] at ndX
        simpa using ndX.2
      · rw [q]; exact ndX
    · rw [hnm]
      rcases hkC with q | q <;> rw [q] <;> simp
    rw [hnm] at hL ndX
    simp only [List.map_cons, List.map_nil, List.singleton_append, List.nodup_cons, List.mem_cons, List.not_mem_nil, or_false, not_or] at hL ndX
    rw [hk0, hk1] at hL ndX
    have al₈ : ∀ b, (s₅.heap.get? b).isSome = true → (s₈.heap.get? b).isSome = true := fun b e => by
      by_cases z : Wr env (fun _ => False) b
      · exact F₈.st.aliveWr b z
      · obtain ⟨o, ho⟩ := Option.isSome_iff_exists.mp (al₇ b e)
        by_cases q : b = dc
        · subst q
          have := (hRH _ H₆.rc).2
          rw [this] at e; cases e
        · exact isSome_of (k₈ b o q z ho)
    refine wpAny_execs_cons (s_parent O (fun b q => S₅.nP b q) S₅.fresh al₈ hRH hh₅ F₈ hL hfv e1 e2 ⟨ndX.1.1, ndX.1.2.1, ndX.2.1.1⟩ c2 dH oH X.f2 c15 c16 c17 X.f3 hfl fun s₉ al hs₉ S₉ => ?_)
    have hHost : ∀ q : LawP, q.cl = cl → hostOf q names low kfs al = hostD al cl nLC (klsD nKlass nPar k0 k1 (low n2) (kfs n0) (kfs n1) (kfs n2)) := by
      intro q hq
      rw [hnm]
      show hostD al q.cl nLC (klsD nKlass nPar (low n0) (low n1) (low n2) (kfs n0) (kfs n1) (kfs n2)) = _
      rw [hk0, hk1, hq]
    refine hide fun Gg kg => ?_
    obtain ⟨ρ12, args, ρt, ds, out, m, evb, hargs, hat, hds, hx, hm, he, evc⟩ := R al
    refine kg ?_; clear kg Gg
    rw [hHost _ rfl] at evb
    have S₉' := S₉.weaken (ρ₂ := put ρ5 nHv (hostD al cl nLC (klsD nKlass nPar k0 k1 (low n2) (kfs n0) (kfs n1) (kfs n2)))) fun y d hy => by
      rw [look_put] at hy ⊢
      rw [eH]
      by_cases q : y = nHv
      · rw [if_pos q] at hy ⊢; exact hy
      · rw [if_neg q] at hy ⊢
        rw [hρ8 y fun z => by rw [z, eK, nk] at hy; cases hy]
        exact hy
    refine seqB O hAn rB S₉' evb fun s₁₂ P₁₂ hP₁₂ hs₁₂ S₁₂ => ?_
    refine wpAny_execs_cons (s_toldIf O.toOrc hA' hfr' hfe Z FT hat hds (OX _ _ _ hx) hm S₁₂ c18 c19 c20 hgT rtl hargs re he fun s₁₃ S₁₃ hs₁₃ => ?_)
    refine wpAny_mono (mainB O rC _ _ _ _ _ _ _ _ _ hAn S₁₃ evc) (fun fl s' z => ?_) fun _ _ z => z.elim
    refine hide fun Gg kg => ?_
    obtain ⟨P', W', h1, h2, h3⟩ := z
    refine kg ?_; clear kg Gg
    cases fl with
    | ret v =>
      cases h3
      refine (same_tr (same_tr (same_tr (same_tr (same_tr (same_tr (same_tr (same_tr hsame hs₅) hs₆) hs₇) hs₈) hs₉) hs₁₂) hs₁₃) h2.same).elim fun hf' e => e.elim fun tf' e => ?_
      subst e
      exact hQ hf' tf' fun b o e => h2.kept b o (fun z => by rw [S₁₃.gn b z] at e; cases e) (S₁₃.gk b o e)
    | _ => exact h3.elim
end
end Mine
end

section
open PySem PySem.W PyProof.Rows PySem.Calls
set_option maxRecDepth 100000
namespace Mine

noncomputable def lawOfK (K : Frag) (a : Addr) : Option LawP := match K.lookup a with
  | some ⟨_, _, .func fd, _⟩ => (match fd.body with
    | .stmts l => (lawOf fd.scope l).map (·.1)
    | _ => none)
  | _ => none
theorem lawOfK_shape {K : Frag} {a : Addr} {p : LawP} (e : lawOfK K a = some p) : ∀ a' oc od fd sl st, Value.ref a = .ref a' → K.lookup a' = some ⟨oc, od, .func fd, sl⟩ → fd.body = .stmts st → LawShape fd.scope st p := by
  intro a' oc od fd sl st e1 e2 e3
  cases e1
  unfold lawOfK at e
  rw [e2] at e
  dsimp only at e
  rw [e3] at e
  obtain ⟨x, _, rfl⟩ := Option.map_eq_some_iff.mp e
  exact x.2
end Mine
end

section
open PySem PySem.W PyProof.Rows PySem.Calls
set_option maxRecDepth 100000
namespace Mine
noncomputable def lawA : List PS := [.asg 126870958469236 (.upto (.var 126870958469236) 63), .asg 1919907699 (.lst [.int 6, .int 3, .int 19, .int 0, .int 14, .int 1, .int 25, .int 0, .int 1]), .asg 431415719795 (.comp (.bin .Add (.item (.var 1919907699) (.var 107)) (.ite (.cmp .Lt (.var 107) (.call 7103854 [.var 126870958469236])) (.item (.var 126870958469236) (.var 107)) (.int 0))) 107 (.call 491260897125 [.call 7103854 [.var 1919907699]]) []), .asg 1851878757 (.ite (.cmp .Eq (.bin .Mod (.item (.var 431415719795) (.int 8)) (.int 6)) (.int 0)) (.str ⟨#[95, 95, 99, 111, 110, 115, 116, 114, 117, 99, 116]⟩) (.str ⟨#[109]⟩)), .asg2 8319664048651068517 2129833996420263274355 (.call 115359766379428938919735140 [.upto (.var 431415719795) 4, .var 1851878757]), .asg2 1814802986928085886053 464589564653555576563571 (.call 115359766379428938919735140 [.cut (.var 431415719795) 4 8, .var 1851878757])]
noncomputable def lawB : List PS := [.asg 7566690 (.call 28839564598538086 [.var 8319664048651068517, .item (.attr (.var 1752134516) 27985188498924915) (.str ⟨#[112, 49]⟩), .var 2129833996420263274355]), .asg 1650553701 (.call 28839564598538086 [.var 1814802986928085886053, .item (.attr (.var 1752134516) 27985188498924915) (.str ⟨#[112, 48]⟩), .var 464589564653555576563571]), .ite (.or [.cmp .NotEq (.call 483847604615661271278707 [.var 7566690]) (.call 450624087419687409968243 [.var 8319664048651068517, .str ⟨#[80, 49]⟩]), .cmp .NotEq (.call 483847604615661271278707 [.var 1650553701]) (.call 450624087419687409968243 [.var 1814802986928085886053, .str ⟨#[80, 48]⟩])]) [.ret (.bool false)] []]
noncomputable def lawC : List PS := [.asg 115944242702708 (.call 132252020700420827779789939 [.var 1752134516, .var 7566690, .var 1650553701]), .ite (.cmp .NotEq (.var 115944242702708) (.call 1760250341482868339827 [.var 8319664048651068517, .var 1814802986928085886053])) [.ret (.bool false)] [], .asg 130160803538291 (.bin .Add (.lst [.int 1, .str ⟨#[120]⟩, .bool true, .bool false, .none, .call 4289138 []]) (.comp (.call 5202538 [.item (.attr (.var 1752134516) 27985188498924915) (.var 7038329), .int 1]) 7038329 (.tup [.str ⟨#[112, 48]⟩, .str ⟨#[112, 49]⟩, .str ⟨#[111, 116, 104, 101, 114]⟩]) [])), .ret (.or [.not (.var 115944242702708), .call 7560217649441970628274785971812 [.var 1752134516, .var 7566690, .var 1650553701, .var 130160803538291]])]
noncomputable def pLaw : LawP where
  A := lawA
  B := lawB
  C := lawC
  it := .tup [.str ⟨#[80, 48]⟩, .str ⟨#[80, 49]⟩, .str ⟨#[79, 116, 104, 101, 114]⟩]
  ie := .meth (.var 7038329) 465726563698 []
  ps := [.var 7038329, .str ⟨#[99, 108, 97, 115, 115]⟩]
  tps := [.var 1752134516, .var 7566690, .var 1650553701]
  e := .call 450624087419614160841844 [.var 8319664048651068517, .var 2129833996420263274355, .var 1814802986928085886053, .var 464589564653555576563571]
  k0 := ⟨#[112, 48]⟩
  k1 := ⟨#[112, 49]⟩
  cl := ⟨#[99, 108, 97, 115, 115]⟩
end Mine
end

section
open PySem PySem.W PyProof.Rows PySem.Calls
set_option maxRecDepth 100000
namespace Mine
noncomputable def kfsP0 : List (Nat × D) := [(1851878757, .str ⟨#[80, 48]⟩), (7038329, .str ⟨#[112, 48]⟩), (1936683636, .str ⟨#[99, 108, 97, 115, 115]⟩), (439904986995, .tup []), (123563833388660, .none), (497886009785085891667315, .lst []), (109330245579891, .dct []), (482956243059, .dct []), (478660552050, .lst []), (32497584235438963, .dct []), (35731471741495149139531363443, .dct []), (30792323104203891, .dct []), (27691627349372519, .none), (426836714867, .lst []), (1970496883, .lst []), (469785863538, .none), (109317377123698, .none), (1945221610376732042596, .bool false)]
noncomputable def kfsP1 : List (Nat × D) := [(1851878757, .str ⟨#[80, 49]⟩), (7038329, .str ⟨#[112, 49]⟩), (1936683636, .str ⟨#[99, 108, 97, 115, 115]⟩), (439904986995, .tup []), (123563833388660, .none), (497886009785085891667315, .lst []), (109330245579891, .dct []), (482956243059, .dct []), (478660552050, .lst []), (32497584235438963, .dct []), (35731471741495149139531363443, .dct []), (30792323104203891, .dct []), (27691627349372519, .none), (426836714867, .lst []), (1970496883, .lst []), (469785863538, .none), (109317377123698, .none), (1945221610376732042596, .bool false)]
noncomputable def kfsO : List (Nat × D) := [(1851878757, .str ⟨#[79, 116, 104, 101, 114]⟩), (7038329, .str ⟨#[111, 116, 104, 101, 114]⟩), (1936683636, .str ⟨#[99, 108, 97, 115, 115]⟩), (439904986995, .tup []), (123563833388660, .none), (497886009785085891667315, .lst []), (109330245579891, .dct []), (482956243059, .dct []), (478660552050, .lst []), (32497584235438963, .dct []), (35731471741495149139531363443, .dct []), (30792323104203891, .dct []), (27691627349372519, .none), (426836714867, .lst []), (1970496883, .lst []), (469785863538, .none), (109317377123698, .none), (1945221610376732042596, .bool false)]
noncomputable def hostF : List (Nat × D) := [(500085779571, .dct []), (435777793139, .dct []), (435811607411, .dct []), (7630704, .inst 302566698341 [(1718972003, .none), (1952999795, .none), (6515827, .none), (126943688419683, .none), (1986097779, .dct []), (1634887539, .lst [])]), (440005651813, .inst 302566698341 [(1718972003, .none), (1952999795, .none), (6515827, .none), (126943688419683, .none), (1986097779, .dct []), (1634887539, .lst [])]), (474316301683, .lst []), (126896627347060, .int 0), (482671228019, .lst []), (27713630382682739, .lst []), (431198598248, .int 0), (465625246068, .int 12), (495806934644, .int 0), (1718969708, .none), (29380524337030515, .int 0), (27985188498924915, .dct []), (1890029705619886272115, .dct []), (1834257145426581812339, .dct []), (1976699461532356398454293542495602, .lst []), (1835099237, .lst []), (1945221618120625054580, .bool false)]
end Mine
end

section
open PySem PySem.W PyProof.Rows PySem.Calls
set_option maxRecDepth 100000
namespace Mine

noncomputable def N : Nat := 16
noncomputable abbrev L : Lv := lv T N
noncomputable abbrev isiT : D → Nat → Option Bool := isiD (isClsT T)
noncomputable def sP0 : Str := ⟨#[80, 48]⟩
noncomputable def sP1 : Str := ⟨#[80, 49]⟩
noncomputable def sOther : Str := ⟨#[79, 116, 104, 101, 114]⟩
noncomputable def names3 : List Str := [sP0, sP1, sOther]
noncomputable def lowS (s : Str) : Str := if s == sP0 then ⟨#[112, 48]⟩ else if s == sP1 then ⟨#[112, 49]⟩ else ⟨#[111, 116, 104, 101, 114]⟩
noncomputable def kfsS (s : Str) : List (Nat × D) := if s == sP0 then kfsP0 else if s == sP1 then kfsP1 else kfsO
noncomputable def dsS (s : Str) : List D := [.str s, .str ⟨#[99, 108, 97, 115, 115]⟩]

theorem law_fix : LawFix L.f L.m isiT (knT T) (foT T) L.k pLaw names3 lowS dsS kfsS hostF := by
  refine ⟨by kernel_rfl, by kernel_rfl, by kernel_rfl, ?_, fun ρ => by kernel_rfl, fun nm hm ρ'' => ?_, by decide +kernel, ⟨sP0, sP1, sOther, rfl, by decide +kernel, by decide +kernel, by decide +kernel⟩, by decide +kernel, by decide +kernel, by decide +kernel⟩
  · decide +kernel
  · have h : look (put ρ'' nKey (.str nm)) nKey = some (.str nm) := by rw [look_put, if_pos rfl]
    have e1 : evE L.f L.m isiT (knT T) (foT T) pLaw.ie (put ρ'' nKey (.str nm)) = match look (put ρ'' nKey (.str nm)) nKey with
      | some x => L.m 465726563698 x []
      | none => none := by kernel_rfl
    have e2 : evEs L.f L.m isiT (knT T) (foT T) pLaw.ps (put ρ'' nKey (.str nm)) = match look (put ρ'' nKey (.str nm)) nKey with
      | some x => some [x, .str ⟨#[99, 108, 97, 115, 115]⟩]
      | none => none := by kernel_rfl
    rw [e1, e2, h]
    simp only [names3, List.mem_cons, List.not_mem_nil, or_false] at hm
    rcases hm with rfl | rfl | rfl
    · exact ⟨by kernel_rfl, rfl, rfl, by kernel_rfl⟩
    · exact ⟨by kernel_rfl, rfl, rfl, by kernel_rfl⟩
    · exact ⟨by kernel_rfl, rfl, rfl, by kernel_rfl⟩
end Mine
end

section
open PySem PySem.W PyProof.Rows PySem.Calls
set_option maxRecDepth 100000
namespace Mine

section
variable (p : Program) (w : World) (n₀ : Nat) (ann : Option Value)
/-- one step of the top's run over a tree, by the library's quick twins -/
noncomputable def stepQ (s : SharedT) (t : Thread) : Option (SharedT × Thread) := match Fast.tw6613529449190102663 n₀ ann t with
  | true => Fast.tw10156331382660048174 (Fast.tw11892475500146522536 Fast.tw14364793385576792824) p w s t
  | false => none
noncomputable def topRunQ : Nat → SharedT → Thread → Option SharedT
  | 0, _, _ => none
  | n + 1, s, t => match through t with
    | true => some s
    | false => (match stepQ p w n₀ ann s t with
      | some r => topRunQ n r.1 r.2
      | none => none)
end
theorem stepQ_spec {p : Program} {w : World} {n₀ : Nat} {ann : Option Value} {s : SharedT} {t : Thread} {r : SharedT × Thread} (h : stepQ p w n₀ ann s t = some r) : stepOk n₀ ann t = true ∧ step (denote treeTable) p w s.abs t = .go r.1.abs r.2 := by
  unfold stepQ at h
  rw [← Fast.te6613529449190102663, ← Fast.te10156331382660048174, ← Fast.te11892475500146522536, ← Fast.te14364793385576792824] at h
  refine Bool.casesOn (motive := fun b => stepOk n₀ ann t = b → _) (stepOk n₀ ann t) (fun e => ?_) (fun e => ?_) rfl
  · rw [e] at h; exact nomatch h
  · rw [e] at h; exact ⟨e, stepT_spec h⟩
theorem topRunQ_of {p : Program} {w : World} {n₀ : Nat} {ann : Option Value} {s' : SharedT} (n : Nat) : ∀ s t, topRunQ p w n₀ ann n s t = some s' → topRun treeTable p w n₀ ann n s.abs t = some s'.abs := by
  induction n with
  | zero => exact fun _ _ h => nomatch h
  | succ n ih =>
    intro s t h
    rw [topRunQ] at h
    rw [topRun]
    generalize through t = b at h ⊢
    cases b with
    | true => exact congrArg (Option.map SharedT.abs) h
    | false =>
      dsimp only at h ⊢
      generalize hr : stepQ p w n₀ ann s t = x at h
      cases x with
      | none => exact nomatch h
      | some r =>
        obtain ⟨a, b⟩ := stepQ_spec hr
        rw [a, b]
        exact ih _ _ h

noncomputable def tree0 (P : Params) : BT :=
  .node (boot_o_0 P) (.node (boot_o_1 P) (.node (boot_o_3 P) (.node (boot_o_7 P) .nil .nil) .nil) (.node (boot_o_5 P) (.node (boot_o_9 P) .nil .nil) .nil))
    (.node (boot_o_2 P) (.node (boot_o_4 P) (.node (boot_o_8 P) .nil .nil) .nil) (.node (boot_o_6 P) (.node (boot_o_10 P) .nil .nil) .nil))
noncomputable def shared0 (w : World) (os : OsState) : SharedT := ⟨tree0 w.params, 11, (boot_heap w.params).life, #[], boot_drawn, boot_toks, os⟩
theorem tree0_abs (P : Params) : absHeap (tree0 P) 11 (boot_heap P).life = boot_heap P := by kernel_rfl

/-- the addresses of what the law reaches: the text's names, the classes with what stands in them, the functions -/
noncomputable def hot : List Nat := [3, 75, 74, 38, 37, 136, 135, 157, 156, 347, 346, 749, 748, 770, 769, 650, 649, 262, 261, 35, 34, 133, 132, 154, 153, 288, 287, 281, 669, 668, 662, 767, 766, 647, 646, 640, 259, 258, 676, 675, 866, 865, 890, 889, 112, 111, 168, 167, 173, 172, 180, 179, 175, 187, 186, 194, 193, 201, 200, 438, 437, 445, 444, 452, 451, 459, 458, 466, 465, 473, 472, 487, 486, 494, 493, 501, 500, 508, 507, 515, 514, 522, 521, 529, 528, 536, 535, 543, 542, 550, 549, 557, 556, 564, 563, 569, 568, 576, 575, 583, 582, 590, 589, 597, 596, 604, 603, 611, 610, 618, 617, 625, 624, 632, 631, 781, 780, 788, 787, 795, 794, 800, 799, 805, 804, 812, 811, 819, 818, 824, 823, 831, 830, 838, 837, 845, 844, 852, 851, 859, 858, 873, 872, 878, 877, 885, 884]
/-- that part of a heap -/
noncomputable def fragAt (h : Heap) : Frag := hot.filterMap fun a => (h.get? a).map fun o => (a, o)
noncomputable def pick (t : BT) (n : Nat) : List Nat → Frag
  | [] => []
  | a :: l => match Nat.ble (a + 1) n with
    | true => (match alive ((t.get a).getD default) with
      | some o => (a, o) :: pick t n l
      | none => pick t n l)
    | false => pick t n l
noncomputable def fragT (t : BT) (n : Nat) : Frag := pick t n hot
theorem fragAt_in (h : Heap) : (fragAt h).In h := fun a o e => by
  obtain ⟨b, hb, e2⟩ := List.mem_filterMap.mp (mem_of_lookupK e)
  obtain ⟨o', h1, h2⟩ := Option.map_eq_some_iff.mp e2
  cases h2
  exact h1
theorem fragAt_abs (t : BT) (n : Nat) (life : Life) : fragAt (absHeap t n life) = fragT t n := by
  have one : ∀ a, (absHeap t n life).get? a = match Nat.ble (a + 1) n with | true => alive ((t.get a).getD default) | false => none := fun a => by
    unfold Heap.get?
    rw [absHeap_at]
    cases e : Nat.ble (a + 1) n with
    | true =>
      rw [if_pos (show a < n from Nat.le_of_ble_eq_true e)]
      generalize (t.get a).getD default = o
      obtain ⟨c, d, x, sl⟩ := o
      cases x <;> rfl
    | false => rw [if_neg fun q : a < n => by rw [Nat.ble_eq_true_of_le q] at e; cases e]
  have all : ∀ l : List Nat, l.filterMap (fun a => ((absHeap t n life).get? a).map fun o => (a, o)) = pick t n l := fun l => by
    induction l with
    | nil => rfl
    | cons a l ih =>
      unfold pick
      rw [List.filterMap_cons, one, ih]
      cases Nat.ble (a + 1) n with
      | true => cases alive ((t.get a).getD default) <;> rfl
      | false => rfl
  exact all _
end Mine
end

section
open PySem PySem.W PyProof.Rows PySem.Calls
set_option maxRecDepth 100000
namespace Mine

/-- what is read of the written part -/
noncomputable def obsFn (K : Frag) (q : Nat × Fn) : Option Fn := match nsIn K mainGlobals (dec q.1) with
  | some (some (.ref a)) => fnOfK K a q.2.dfl.length
  | _ => none
theorem fnAt_of {K : Frag} {q : Nat × Fn} (h : obsFn K q = some q.2) : FnAt K q.1 q.2 := by
  unfold obsFn at h
  split at h
  · rename_i a e; exact ⟨a, _, e, h⟩
  · cases h
noncomputable def isFun (K : Frag) (f : Addr) : Bool := typeIn K (.ref f) == some (.type "function")
noncomputable def obsCls (K : Frag) (q : Nat × Fn) : Option Fn := match nsIn K mainGlobals (dec q.1) with
  | some (some (.ref C)) => if keepIn K (.ref C) && makesIn K C then (match findIn K (.ref C) "__init__" with
    | some (some (.ref fI)) => if isFun K fI then fnOfK K fI q.2.dfl.length else none
    | _ => none) else none
  | _ => none
theorem clsAt_of {K : Frag} {q : Nat × Fn} (h : obsCls K q = some q.2) : ClsAt K q.1 q.2 := by
  unfold obsCls at h
  split at h
  · rename_i C e
    split at h
    · rename_i hk
      rw [Bool.and_eq_true] at hk
      split at h
      · rename_i fI e2
        split at h
        · rename_i e3; exact ⟨C, fI, _, e, hk.1, hk.2, e2, beq_iff_eq.mp e3, h⟩
        · cases h
      · cases h
    · cases h
  · cases h
noncomputable def obsFld (K : Frag) (q : Nat × List Nat) : Bool := match nsIn K mainGlobals (dec q.1) with
  | some (some (.ref C)) => q.2.all (fldChk K C)
  | _ => false
theorem fldAt_of {K : Frag} {q : Nat × List Nat} (h : obsFld K q = true) : FldAt K q.1 q.2 := by
  unfold obsFld at h
  split at h
  · rename_i C e; exact ⟨C, e, h⟩
  · cases h
end Mine
end

section
open PySem PySem.W PyProof.Rows PySem.Calls
set_option maxRecDepth 100000
namespace Mine

noncomputable def xOfK (K : Frag) (a : Addr) : Option (List XS) := match K.lookup a with
  | some ⟨_, _, .func fd, _⟩ => (match fd.body with
    | .stmts l => some (cXB fd.scope l)
    | _ => none)
  | _ => none
theorem xFnIs_of {K : Frag} {a : Addr} {n : Nat} {fn : Fn} {xb : List XS} (e : fnOfK K a n = some fn) (ex : xOfK K a = some xb) : XFnIs K (.ref a) fn xb := by
  refine ⟨fnIs_of e, fun a' oc od fd sl st e1 e2 e3 => ?_⟩
  cases e1
  unfold xOfK at ex
  rw [e2] at ex
  dsimp only at ex
  rw [e3] at ex
  cases ex
  exact cXB_sound _ _
def ToldB (sc : Scope) (st : List Stmt) (f c : Nat) (ps : List PE) : Prop :=
    ∃ g gp l q p₁ cn cp x p₂ wy p₃ p₄ p₅ p₆ p₇ kd p₈ p₉, st = [.Try [.Expr (.Call (.Name g gp) l [] q) p₁] [.ExceptHandler (some (.Name cn cp)) (some x) [.Return (some (.Attribute (.Name x p₂) wy p₃)) p₄] p₅] [] [] p₆, .Return (some (.Constant (.str ("" : Str)) kd p₇)) p₈] ∧
      isGlob sc g = true ∧ nmOk g f = true ∧ nameOk g = true ∧ RepL sc l ps ∧ isGlob sc cn = true ∧ nmOk cn c = true ∧ nameOk cn = true ∧ sc.names.lookup x = some .local ∧ nameOk x = true ∧ wy = ("why" : Str) ∧ p₉ = p₈
noncomputable def toldOf (sc : Scope) (st : List Stmt) : Option {q : Nat × Nat × List PE // ToldB sc st q.1 q.2.1 q.2.2} := match st with
  | [.Try [.Expr (.Call (.Name g _) l [] _) _] [.ExceptHandler (some (.Name cn _)) (some x) [.Return (some (.Attribute (.Name x' _) wy _)) _] _] [] [] _, .Return (some (.Constant (.str e) _ _)) _] =>
      whn (x == x' && wy == ("why" : Str) && e == ("" : Str)) fun hs =>
      whn (isGlob sc g && nmOk g (enc g) && nameOk g && isGlob sc cn && nmOk cn (enc cn) && nameOk cn && sc.names.lookup x == some .local && nameOk x) fun hc => (cL (cP 40 sc) l).map fun r => ⟨(enc g, enc cn, r.1), by
        have e1 := beq_iff_eq.mp (aL (aL hs)); subst e1
        have e2 := beq_iff_eq.mp (aR (aL hs)); subst e2
        have e3 := beq_iff_eq.mp (aR hs); subst e3
        exact ⟨_, _, _, _, _, _, _, _, _, _, _, _, _, _, _, _, _, _, rfl, aL (aL (aL (aL (aL (aL (aL hc)))))), aR (aL (aL (aL (aL (aL (aL hc)))))), aR (aL (aL (aL (aL (aL hc))))), r.2, aR (aL (aL (aL (aL hc)))), aR (aL (aL (aL hc))), aR (aL (aL hc)), beq_iff_eq.mp (aR (aL hc)), aR hc, rfl, rfl⟩⟩
  | _ => none
noncomputable def toldOfK (K : Frag) (a : Addr) : Option (Nat × Nat × List PE) := match K.lookup a with
  | some ⟨_, _, .func fd, _⟩ => (match fd.body with
    | .stmts st => (toldOf fd.scope st).map (·.1)
    | _ => none)
  | _ => none
theorem toldIs_of {K : Frag} {a : Addr} {n f c : Nat} {fn : Fn} {ps : List PE} (e : fnOfK K a n = some fn) (et : toldOfK K a = some (f, c, ps)) : ToldIs K (.ref a) fn f c ps := by
  refine ⟨fnIs_of e, fun a' oc od fd sl st e1 e2 e3 => ?_⟩
  cases e1
  unfold toldOfK at et
  rw [e2] at et
  dsimp only at et
  rw [e3] at et
  obtain ⟨x, _, h⟩ := Option.map_eq_some_iff.mp et
  have hx := x.2
  rw [h] at hx
  exact hx

noncomputable def clsTab : List (Nat × Addr) := [(345232269677, 136), (1182101091, 157), (302566698341, 650), (1215263604, 749), (323940873075, 770), (4289138, 347), (5202538, 262)]
noncomputable def isiChk (K : Frag) (q : Nat × Addr) : Bool := (nsIn K mainGlobals (dec q.1) == some (some (.ref q.2))) && clsK K q.2 && clsQ K q.2 && (["NoneType", "bool", "int", "str"].all fun T => subIn K (.type T) (.ref q.2) == some false) && (["bool", "int", "str"].all fun T => kin_notT K q.2 T)
theorem cls_same : T.cls.map (·.1) = clsTab.map (·.1) := by kernel_rfl
noncomputable def refAt (K : Frag) (n : Nat) : Option Addr := match nsIn K mainGlobals (dec n) with
  | some (some (.ref a)) => some a
  | _ => none
theorem refAt_of {K : Frag} {n : Nat} {a : Addr} (h : refAt K n = some a) : nsIn K mainGlobals (dec n) = some (some (.ref a)) := by
  unfold refAt at h
  split at h
  · rename_i e; cases h; exact e
  · cases h
noncomputable def primL : List Str := [("len" : Str), ("range" : Str), ("str" : Str), ("tuple" : Str), ("all" : Str), ("sum" : Str), ("chr" : Str), ("ord" : Str), ("max" : Str), ("isinstance" : Str), ("bool" : Str), ("int" : Str), ("Exception" : Str)]
noncomputable def obsTool (K : Frag) : Option Fn := match refAt K 1215263604 with
  | some C => if (findIn K (.ref C) "__getattribute__" == some (some (.builtin "object.__getattribute__"))) && (findIn K (.ref C) "__getattr__" == some none) then (match findIn K (.ref C) (dec 1953460076) with
    | some (some (.ref f)) => if isFun K f then fnOfK K f 0 else none
    | _ => none) else none
  | none => none
noncomputable def obsX (K : Frag) (q : Nat × (Fn × List XS)) : Option (Fn × List XS) := match refAt K q.1 with
  | some a => (match fnOfK K a 0, xOfK K a with
    | some f, some x => some (f, x)
    | _, _ => none)
  | none => none
noncomputable def obsExc (K : Frag) : Bool := (refAt K nCF == some 75) && keepIn K (.ref 75) && excOf K 75 && (findIn K (.ref 75) "__init__" == some (some (.ref 35))) && isFun K 35 && (findIn K (.ref 75) "__setattr__" == some (some (.builtin "object.__setattr__"))) &&
  (findIn K (.ref 75) "__getattribute__" == some (some (.builtin "BaseException.__getattribute__"))) && (findIn K (.ref 75) "__getattr__" == some none) && (findIn K (.ref 75) "why" == some none) && xInit K 35
structure Obs where
  fns : List (Option Fn)
  cls : List (Option Fn)
  b : Bool
  tool : Option Fn
  xs : List (Option (Fn × List XS))
  told : Option Addr × Option Fn × Option (Nat × Nat × List PE)
  law : Option Addr × Option Fn × Option LawP
noncomputable def mp {α β : Type} (f : α → β) : List α → List β
  | [] => []
  | a :: l => f a :: mp f l
theorem mp_eq {α β : Type} (f : α → β) : ∀ l : List α, mp f l = l.map f
  | [] => rfl
  | a :: l => congrArg (f a :: ·) (mp_eq f l)
noncomputable def obs (K : Frag) : Obs where
  fns := mp (obsFn K) T.fns
  cls := mp (obsCls K) T.cls
  b := T.flds.all (obsFld K) && clsTab.all (isiChk K) && (clsTab.all fun x => clsTab.all fun y => Nat.beq x.1 y.1 || kin_not K x.2 y.2) && (primL.all fun x => nsIn K mainGlobals x == some none) && obsExc K
  tool := obsTool K
  xs := mp (obsX K) X
  told := (refAt K nTold, fnOfK K 866 0, toldOfK K 866)
  law := (refAt K 7102839, fnOfK K 890 0, lawOfK K 890)
noncomputable def obsG : Obs where
  fns := T.fns.map fun q => some q.2
  cls := T.cls.map fun q => some q.2
  b := true
  tool := some m_Host_tool
  xs := X.map fun q => some q.2
  told := (some 866, some f__law_fault_told, some (30765223050532539336692887396, nCF, [.var 1752134516, .var 7566690, .var 1650553701]))
  law := (some 890, some f_law, some pLaw)
theorem dec_law : dec 7102839 = ("law" : Str) := by decide +kernel
theorem map_all {α β : Type} {f g : α → β} : ∀ {l : List α}, l.map f = l.map g → ∀ x ∈ l, f x = g x
  | [], _, _, h => by cases h
  | a :: l, e, x, h => by
    rw [List.map_cons, List.map_cons] at e
    have e1 := (List.cons.inj e).1
    have e2 := (List.cons.inj e).2
    cases h with
    | head => exact e1
    | tail _ h => exact map_all e2 x h

structure Facts (K : Frag) : Prop where
  fns : ∀ q ∈ T.fns, FnAt K q.1 q.2
  cls : ∀ q ∈ T.cls, ClsAt K q.1 q.2
  flds : ∀ q ∈ T.flds, FldAt K q.1 q.2
  isi : clsTab.all (isiChk K) = true
  two : (clsTab.all fun x => clsTab.all fun y => Nat.beq x.1 y.1 || kin_not K x.2 y.2) = true
  prim : ∀ x ∈ primL, nsIn K mainGlobals x = some none
  exc : obsExc K = true
  tool : obsTool K = some m_Host_tool
  xs : ∀ q ∈ X, obsX K q = some q.2
  told : refAt K nTold = some 866 ∧ fnOfK K 866 0 = some f__law_fault_told ∧ toldOfK K 866 = some (30765223050532539336692887396, nCF, [.var 1752134516, .var 7566690, .var 1650553701])
  law : nsIn K mainGlobals ("law" : Str) = some (some (.ref 890)) ∧ fnOfK K 890 0 = some f_law ∧ lawOfK K 890 = some pLaw
theorem facts_of {K : Frag} (e : obs K = obsG) : Facts K := by
  have e1 : T.fns.map (obsFn K) = T.fns.map fun q => some q.2 := (mp_eq _ _).symm.trans (congrArg Obs.fns e)
  have e2 : T.cls.map (obsCls K) = T.cls.map fun q => some q.2 := (mp_eq _ _).symm.trans (congrArg Obs.cls e)
  have e3 : (T.flds.all (obsFld K) && clsTab.all (isiChk K) && (clsTab.all fun x => clsTab.all fun y => Nat.beq x.1 y.1 || kin_not K x.2 y.2) && (primL.all fun x => nsIn K mainGlobals x == some none) && obsExc K) = true := congrArg Obs.b e
  have e4 : obsTool K = some m_Host_tool := congrArg Obs.tool e
  have e5 : X.map (obsX K) = X.map fun q => some q.2 := (mp_eq _ _).symm.trans (congrArg Obs.xs e)
  have e6 := congrArg Obs.told e
  have e7 := congrArg Obs.law e
  rw [Bool.and_eq_true, Bool.and_eq_true, Bool.and_eq_true, Bool.and_eq_true] at e3
  obtain ⟨⟨⟨⟨b1, b2⟩, b3⟩, b4⟩, b5⟩ := e3
  refine ⟨fun q hq => fnAt_of (map_all e1 q hq), fun q hq => clsAt_of (map_all e2 q hq), fun q hq => fldAt_of (List.all_eq_true.mp b1 q hq), b2, b3, fun x hx => beq_iff_eq.mp (List.all_eq_true.mp b4 x hx), b5, e4, fun q hq => map_all e5 q hq, ⟨congrArg (fun x => x.1) e6, congrArg (fun x => x.2.1) e6, congrArg (fun x => x.2.2) e6⟩, ⟨?_, congrArg (fun x => x.2.1) e7, congrArg (fun x => x.2.2) e7⟩⟩
  have := refAt_of (congrArg (fun x => x.1) e7)
  rw [dec_law] at this
  exact this

section
variable {K : Frag} {h : Heap} {mg mb : Str → Option Value}
theorem tabOK (F : Facts K) (X : K.In h) (G : h.Ns mainGlobals mg) (B : ∀ x : Str, x ≠ "__name__" → mb x = bootBuiltins x) : TabOK K mg mb T := by
  have clsAt : ∀ c, isClsT T c = true → ∃ C, (c, C) ∈ clsTab := fun c e => by
    obtain ⟨fn, hf⟩ := Option.isSome_iff_exists.mp e
    have hm := List.mem_map_of_mem (f := fun x : Nat × Fn => x.1) (findN_mem hf)
    have hm : c ∈ T.cls.map (·.1) := hm
    rw [cls_same] at hm
    obtain ⟨q, hq, rfl⟩ := List.mem_map.mp hm
    exact ⟨q.2, hq⟩
  have chk : ∀ q ∈ clsTab, isiChk K q = true := fun q hq => List.all_eq_true.mp F.isi q hq
  have cAt : ∀ q ∈ clsTab, mg (dec q.1) = some (.ref q.2) := fun q hq => by
    have := chk q hq
    simp only [isiChk, Bool.and_eq_true, beq_iff_eq] at this
    exact mg_of X G this.1.1.1.1
  refine ⟨⟨?_, ?_, ?_, ?_, ?_, ?_, ?_, ?_, ?_⟩, ⟨fun c e => ?_, fun c d C E hc hd hcd h1 h2 => ?_, ?_, ?_, ?_⟩, ?_, fun n e => ?_, fun c C n e hC => ?_, fun c C n e hC => ?_, fun f fn e => ?_, fun c fn e => ?_, fun c m fn e => ?_⟩
  case refine_10 =>
    obtain ⟨C, hC⟩ := clsAt c e
    have := chk _ hC
    simp only [isiChk, Bool.and_eq_true, beq_iff_eq, List.all_eq_true] at this
    obtain ⟨⟨⟨⟨a, b⟩, c'⟩, d⟩, f⟩ := this
    exact ⟨C, mg_of X G a, b, c', d, f⟩
  case refine_11 =>
    obtain ⟨C', hC'⟩ := clsAt c hc
    obtain ⟨E', hE'⟩ := clsAt d hd
    have a := cAt _ hC'
    have b := cAt _ hE'
    dsimp only at a b
    rw [h1] at a; rw [h2] at b
    cases a; cases b
    have := List.all_eq_true.mp (List.all_eq_true.mp F.two _ hC') _ hE'
    dsimp only at this
    rw [hcd, Bool.false_or] at this
    exact this
  case refine_16 =>
    have : n = 450624087419601459180403 := by
      have := memN_mem e
      simpa [T] using this
    subst this
    obtain ⟨a, k, h1, h2⟩ := (F.fns (450624087419601459180403, f__law_class) (by simp [T])).it
    exact ⟨_, mg_of X G h1⟩
  case refine_17 =>
    unfold foT at e
    split at e
    · rename_i l hl
      obtain ⟨C', h1, h2⟩ := (F.flds _ (findN_mem hl)).it
      have a := mg_of X G h1
      dsimp only at a
      rw [hC] at a
      cases a
      exact (fld_of (List.all_eq_true.mp h2 n (memN_mem e))).1
    · cases e
  case refine_18 =>
    unfold foT at e
    split at e
    · rename_i l hl
      obtain ⟨C', h1, h2⟩ := (F.flds _ (findN_mem hl)).it
      have a := mg_of X G h1
      dsimp only at a
      rw [hC] at a
      cases a
      exact (fld_of (List.all_eq_true.mp h2 n (memN_mem e))).2
    · cases e
  case refine_19 =>
    obtain ⟨a, k, h1, h2⟩ := (F.fns _ (findN_mem e)).it
    exact ⟨.ref a, .inl (mg_of X G h1), fnIs_of h2⟩
  case refine_20 =>
    obtain ⟨C, fI, k, h1, h2, h3, h4, h5, h6⟩ := (F.cls _ (findN_mem e)).it
    exact ⟨C, fI, mg_of X G h1, h2, h3, h4, h5, fnIs_of h6⟩
  case refine_21 =>
    have := findNN_mem e
    simp only [T, List.mem_cons, List.not_mem_nil, or_false, Prod.mk.injEq] at this
    obtain ⟨⟨rfl, rfl⟩, rfl⟩ := this
    have ht := F.tool
    unfold obsTool at ht
    split at ht
    · rename_i C hC
      split at ht
      · rename_i hk
        simp only [Bool.and_eq_true, beq_iff_eq] at hk
        split at ht
        · rename_i f h4
          split at ht
          · rename_i h5
            exact ⟨C, f, mg_of X G (refAt_of hC), hk.1, hk.2, h4, beq_iff_eq.mp h5, fnIs_of ht⟩
          · cases ht
        · cases ht
      · cases ht
    · cases ht
  all_goals exact globB X G B (F.prim _ (List.contains_iff_mem.mp (by kernel_rfl))) (by decide) (by kernel_rfl)
theorem x_all (F : Facts K) (X : K.In h) (G : h.Ns mainGlobals mg) : ∀ f q, findX Mine.X f = some q → ∃ v0, GlobV mg mb (dec f) v0 ∧ XFnIs K v0 q.1 q.2 := by
  have mem : ∀ (l : List (Nat × (Fn × List XS))) f q, findX l f = some q → (f, q) ∈ l := fun l => by
    induction l with
    | nil => intro f q e; cases e
    | cons p r ih =>
      intro f q e
      unfold findX at e
      split at e
      · rename_i hf
        cases e
        rw [← Nat.eq_of_beq_eq_true hf]
        exact List.mem_cons_self ..
      · exact List.mem_cons_of_mem _ (ih f q e)
  intro f q e
  have h1 := F.xs (f, q) (mem _ f q e)
  unfold obsX at h1
  split at h1
  · rename_i a ha
    split at h1
    · rename_i fn x e1 e2
      cases h1
      exact ⟨_, .inl (mg_of X G (refAt_of ha)), xFnIs_of e1 e2⟩
    · cases h1
  · cases h1
theorem excIs (F : Facts K) (X : K.In h) (G : h.Ns mainGlobals mg) (B : ∀ x : Str, x ≠ "__name__" → mb x = bootBuiltins x) : ExcIs K mg mb nCF 75 35 := by
  have e := F.exc
  unfold obsExc at e
  simp only [Bool.and_eq_true, beq_iff_eq, isFun] at e
  obtain ⟨⟨⟨⟨⟨⟨⟨⟨⟨a, b⟩, c⟩, d⟩, e⟩, f⟩, g⟩, i⟩, j⟩, k⟩ := e
  exact ⟨mg_of X G (refAt_of a), b, c, d, e, f, g, i, j, k, globB X G B (F.prim _ (List.contains_iff_mem.mp (by kernel_rfl))) (by decide) (by kernel_rfl)⟩
end
end Mine
end

section
open PySem PySem.W PyProof.Rows PySem.Calls
set_option maxRecDepth 100000
namespace Mine

/-- the text's view: law alone -/
noncomputable def qv : Program := view PySem.Challenge.pw_pq0863_01 [94]
noncomputable def loose0 : List Str := PySem.Challenge.pw_pq0863_01.boundNames.filter fun x => !(x == "law")
noncomputable def xt (s : Shared) : Bool := xlAt qv [] s && recOk (RowW.records (OpenRow.toRowW (OpenLaw.row PySem.Challenge.rw_pq0863_01))) s
noncomputable def chk (P : Params) (s : SharedT) : Bool := staticsOk (importedModules PySem.Challenge.pw_pq0863_01.main.body) (boot_heap P) s.abs.heap && namesBound PySem.Challenge.pw_pq0863_01 s.abs.heap && gensDone s.abs && laidKept (boot_heap P) s.abs.heap
noncomputable def topEnd (w : World) (os : OsState) : Option SharedT := topRunQ PySem.Challenge.pw_pq0863_01 w 11 (some (.ref 6)) 6200 (shared0 w os) (topStub PySem.Challenge.pw_pq0863_01)
set_option maxHeartbeats 0 in
theorem top_seen (w : World) (os : OsState) : ((topEnd w os).map fun s => (chk w.params s, openSeen qv loose0 (importedModules PySem.Challenge.pw_pq0863_01.main.body) xt true s.abs)) = some (true, openGood qv loose0) := by kernel_rfl
set_option maxHeartbeats 0 in
theorem top_obs (w : World) (os : OsState) : ((topEnd w os).map fun s => obs (fragT s.tree s.n)) = some obsG := by kernel_rfl

end Mine
end

section
open PySem PySem.W PyProof.Rows PySem.Calls
set_option maxRecDepth 100000
namespace Mine
theorem opening_eq : opening PySem.Challenge.pw_pq0863_01 = plainProg PySem.Challenge.pw_pq0863_01.main.scope.names := by kernel_rfl
theorem fence_eq (s : Shared) : fenceModules? PySem.Challenge.pw_pq0863_01 s = some s := by kernel_rfl
theorem boot_facts (P : Params) : ((boot_heap P).isNs mainGlobals && (Array.mk ([] : List GenState)).size == 0, (boot_heap P).objs.size, (boot_heap P).nsMap mainGlobals "__annotations__") = (true, 11, some (.ref 6)) := by kernel_rfl
theorem shared0_abs (w : World) (os : OsState) : (shared0 w os).abs = ⟨boot_heap w.params, Array.mk [], boot_drawn, boot_toks, os⟩ := by kernel_rfl
theorem shared_of {s : Shared} {h : Heap} {gs : Array GenState} {d : Drawn} {k : Nat} (e1 : s.heap = h) (e2 : s.gens = gs) (e3 : s.drawn = d) (e4 : s.toks = k) : s = ⟨h, gs, d, k, s.os⟩ := e1 ▸ e2 ▸ e3 ▸ e4 ▸ rfl
theorem opened (w : World) : ∃ os, fencedOpening treeTable PySem.Challenge.pw_pq0863_01 w 6200 = some ⟨boot_heap w.params, Array.mk [], boot_drawn, boot_toks, os⟩ := by
  have o := boot_open (N := 6200) opening_eq (by kernel_rfl) fence_eq w
  cases e : fencedOpening treeTable PySem.Challenge.pw_pq0863_01 w 6200 with
  | none => rw [e] at o; cases o
  | some s =>
    rw [e] at o
    have o := Option.some.inj o
    exact ⟨s.os, congrArg some (shared_of (congrArg (·.1) o) (congrArg (·.2.1) o) (congrArg (·.2.2.1) o) (congrArg (·.2.2.2) o))⟩
theorem chk_is {P : Params} {s : SharedT} (h : chk P s = true) : (staticsOk (importedModules PySem.Challenge.pw_pq0863_01.main.body) (boot_heap P) s.abs.heap && namesBound PySem.Challenge.pw_pq0863_01 s.abs.heap && gensDone s.abs && laidKept (boot_heap P) s.abs.heap) = true := h
theorem abs_obs {s : SharedT} (h : obs (fragT s.tree s.n) = obsG) : obs (fragAt s.abs.heap) = obsG := (congrArg obs (fragAt_abs s.tree s.n s.life)).trans h
theorem top_is {w : World} {os : OsState} {s : SharedT} (h : topEnd w os = some s) : topRun treeTable PySem.Challenge.pw_pq0863_01 w 11 (some (.ref 6)) 6200 ⟨boot_heap w.params, Array.mk [], boot_drawn, boot_toks, os⟩ (topStub PySem.Challenge.pw_pq0863_01) = some s.abs := by
  have r := topRunQ_of _ _ _ h
  rw [shared0_abs] at r
  exact r
theorem left0 : LeftO PySem.Challenge.pw_pq0863_01 qv loose0 xt (fun s => obs (fragAt s.heap)) (fun _ => obsG) 6200 := fun w => by
  refine hide fun Gg kg => ?_
  obtain ⟨os, o⟩ := opened w
  obtain ⟨s, hs, a1⟩ := Option.map_eq_some_iff.mp (top_seen w os)
  obtain ⟨s', hs', a2⟩ := Option.map_eq_some_iff.mp (top_obs w os)
  refine kg ?_; clear kg Gg
  cases hs.symm.trans hs'
  have b := boot_facts w.params
  have f : topFrom treeTable PySem.Challenge.pw_pq0863_01 w 6200 ⟨boot_heap w.params, Array.mk [], boot_drawn, boot_toks, os⟩ = some s.abs := by
    have b1 : ((boot_heap w.params).isNs mainGlobals && (Array.mk ([] : List GenState)).size == 0) = true := congrArg (·.1) b
    have b2 : (boot_heap w.params).objs.size = 11 := congrArg (·.2.1) b
    have b3 : (boot_heap w.params).nsMap mainGlobals "__annotations__" = some (.ref 6) := congrArg (·.2.2) b
    unfold topFrom
    dsimp only
    rw [b1, b2, b3, top_is hs]
    dsimp only [Option.bind_some]
    rw [chk_is (congrArg (·.1) a1)]
  unfold openEnds
  rw [o, Option.bind_some, f]
  exact congrArg some (Prod.ext (congrArg (·.2) a1) (abs_obs a2))
end Mine
end

section
open PySem PySem.W PyProof.Rows PySem.Calls
set_option maxRecDepth 100000
namespace Mine

theorem law_ps : f_law.ps = [nScript] := by decide +kernel
theorem callerOK : AOK (2 * N + 3) callerA := ⟨rfl, by decide +kernel, by decide +kernel⟩

theorem obs_says (w : World) (s : Shared) (h : obs (fragAt s.heap) = obsG) : ∃ K : Frag, K.In s.heap ∧ Facts K := ⟨_, fragAt_in _, facts_of h⟩
theorem says_keeps (w : World) (h h' : Heap) (x : ∃ K : Frag, K.In h ∧ Facts K) (k : ∀ b o, h.get? b = some o → h'.get? b = some o) : ∃ K : Frag, K.In h' ∧ Facts K := let ⟨K, a, b⟩ := x; ⟨K, a.keeps k, b⟩

section
set_option maxHeartbeats 0
theorem said_a : Fast.tw8377067652309620493 PySem.Challenge.pw_pq0863_01 = true := by kernel_rfl
theorem said_b : Fast.tw8326940854005059898 { strict := !R.allR (Fast.tw5923862056798008813 PySem.Challenge.pw_pq0863_01.main.body) (Fast.tw3471404346716756564 Fast.tw17691160309236699985), foot := none, bare := R.filterR (Fast.tw13343964577679436407 PySem.Challenge.pw_pq0863_01 PySem.Challenge.pw_pq0863_01.main.body) [⟨⟨[118, 97, 114, 115]⟩⟩, ⟨⟨[100, 105, 114]⟩⟩, ⟨⟨[108, 111, 99, 97, 108, 115]⟩⟩] } PySem.Challenge.pw_pq0863_01.main.body = true := by kernel_rfl
theorem said_c : (Fast.tw17119622794617984870 PySem.Challenge.pw_pq0863_01 PySem.Challenge.pw_pq0863_01.main.body fun _ n => Fast.tw17868728402115742887 n) = true := by kernel_rfl
theorem said_p : Fast.tw12908688711261696721 PySem.Challenge.pw_pq0863_01 = true := by
  unfold Fast.tw12908688711261696721
  refine look_both (look_both (look_both (look_both ?_ said_a) ?_) said_b) said_c <;> kernel_rfl
theorem said_r : Fast.tw17960256430627541270 (Fast.tw2368527892694137696 PySem.Challenge.rw_pq0863_01) = true := by
  unfold Fast.tw17960256430627541270 Fast.tw2436336058641802641
  rw [show Fast.tw12908688711261696721 (Fast.tw2368527892694137696 PySem.Challenge.rw_pq0863_01).prog = true from said_p]
  kernel_rfl
theorem said_q : Fast.tw9446332074065402090 PySem.Challenge.rw_pq0863_01 = true := by
  unfold Fast.tw9446332074065402090
  rw [said_r]
  kernel_rfl
end
theorem said : PySem.Challenge.rw_pq0863_01.wellSaid = true := by rw [Fast.te9446332074065402090]; exact said_q
set_option maxHeartbeats 0 in
theorem holds_of (plain : ∀ xs : List Int, xs.length ≤ 63 → LawRun L.f L.m isiT (knT T) (foT T) L.k L.u (lvX T nCF X N) pLaw f__law_fault_told [.var 1752134516, .var 7566690, .var 1650553701] 30765223050532539336692887396 (hostOf pLaw names3 lowS kfsS) xs) :
    PySem.Challenge.rw_pq0863_01.Holds := by
  refine holds_law said fun said => ?_
  refine PySem.W.holds_open (q := qv) (loose := loose0) (Xt := xt) (XP := XL qv []) (Yf := fun s => obs (fragAt s.heap)) (Ya := fun _ => obsG) (YP := fun _ h => ∃ K : Frag, K.In h ∧ Facts K) (N := 6200) left0 obs_says says_keeps (fun s e => xl_of s (Bool.and_eq_true_iff.mp e).1) XL.keeps (by rfl) (by rfl) (by rfl) (fun s e => recFacts_of (Bool.and_eq_true_iff.mp e).2) (by rfl) (by assumption) (by kernel_rfl) ⟨rfl, rfl, rfl, rfl, rfl, by decide +kernel⟩ ?_ ?_
  · w_witness2
  · intro w s₀ s₁ mg mb G Y fa o pm cd doc dV kV ho hd hcd hD hmg hg args vals as hpre hlay hrd hwl hlo
    obtain ⟨K, KX, F⟩ := Y
    refine Ground.open G ?_
    intro T' B D TE TW
    have hnl := T'.nolimit
    have hmb := T'.builtins
    have hgg := T'.g
    have hgb := T'.b
    clear TE TW B D G T' hD hcd hd ho
    wrow_args hpre hlay hrd hwl hlo
    rename List Int => xs
    rename IntsAre _ _ => hI
    rename Heap.IsList _ _ _ => hL
    rename ¬ (_ < _) => hlen
    obtain ⟨l1, l2, l3⟩ := F.law
    have e1 := mg_of KX hgg l1
    have e2 : fa = 890 := by
      have hmg' : mg ("law" : Str) = some (.ref fa) := hmg
      rw [e1] at hmg'
      cases hmg'; rfl
    subst e2
    have hx : xs.length ≤ 63 := by omega
    have TO : TabOK K mg mb T := tabOK F KX hgg hmb
    have EX : ExcIs K mg mb nCF 75 35 := excIs F KX hgg hmb
    have hGd : Gd K mg mb s₁.heap := ⟨hgg, hgb, hnl, KX⟩
    obtain ⟨t1, t2, t3⟩ := F.told
    obtain ⟨lc, lk, lc1, lc2⟩ := (F.fns (450624087419601459180403, f__law_class) (by simp [T])).it
    refine law_walk (K := K) (C := 75) (lv_ok TO N) (lvX_ok TO EX (x_all F KX hgg) N) EX (toldIs_of t2 t3) (.inl ?_) (fnIs_of l2) law_ps rfl (lawOfK_shape l3) (mg_of KX hgg lc1) law_fix (plain xs hx) callerOK rfl hGd hL hI fun h' t hk => ?_
    · exact mg_of KX hgg (refAt_of t1)
    · refine GoodW.toG ⟨.inl ⟨.bool true, .bool true, [], rfl, fun cls => ?_, .bool true, ?_, fun _ => ⟨List.nodup_nil, fun _ h => by cases h⟩⟩, hk, rfl, hg⟩
      · first | rfl | (cases cls <;> rfl)
      · first | wrow_post | kernel_rfl
end Mine
end

section
open PySem PySem.W PyProof.Rows PySem.Calls
set_option maxRecDepth 100000
namespace Mine

theorem lvf {n f : Nat} {fn : Fn} {ds : List D} {ρ : List (Nat × D)} {d : D} (h : findN T.fns f = some fn) (ha : argD fn.ps fn.dfl ds = some ρ) (hb : evB (lv T n).f (lv T n).m isiT (knT T) (foT T) (lv T n).k (lv T n).u fn.body ρ none = some (.ret d)) : (lv T (n + 1)).f f ds = some d := by
  show (match findN T.fns f with
        | some fn => runFn (lv T n).f (lv T n).m isiT (knT T) (foT T) (lv T n).k (lv T n).u fn ds
        | none => match findN T.cls f with
          | some fn => (runMut (lv T n).f (lv T n).m isiT (knT T) (foT T) (lv T n).k (lv T n).u fn f [] ds).map (.inst f)
          | none => primP f ds) = some d
  rw [h]
  dsimp only
  unfold runFn
  rw [ha]
  exact congrArg outFn hb
theorem look_c {a x : Nat} {d : D} {ρ : List (Nat × D)} : look ((a, d) :: ρ) x = if a = x then some d else look ρ x := by
  show (match Nat.beq a x with | true => some d | false => look ρ x) = _
  rw [BT.beq_eq]
  by_cases q : a = x
  · rw [if_pos q, decide_eq_true q]
  · rw [if_neg q, decide_eq_false q]
theorem put_c {a x : Nat} {d e : D} {ρ : List (Nat × D)} : put ((a, d) :: ρ) x e = if a = x then (x, e) :: ρ else (a, d) :: put ρ x e := by
  show (match Nat.beq a x with | true => _ | false => _) = _
  rw [BT.beq_eq]
  by_cases q : a = x
  · rw [if_pos q, decide_eq_true q]
  · rw [if_neg q, decide_eq_false q]
theorem put_n {x : Nat} {e : D} : put [] x e = [(x, e)] := rfl
theorem free_none {x : Nat} : freeOf none x = true := rfl
theorem wOwn_none {ρ : List (Nat × D)} : wOwn ρ none = ρ := rfl

end Mine
end

section
open PySem PySem.W PyProof.Rows PySem.Calls
set_option maxRecDepth 100000
namespace Mine

noncomputable def wInt : D := .str ⟨#[105, 110, 116]⟩
noncomputable def wStr : D := .str ⟨#[115, 116, 114, 105, 110, 103]⟩
noncomputable def wMixed : D := .str ⟨#[109, 105, 120, 101, 100]⟩
noncomputable def wNull : D := .str ⟨#[110, 117, 108, 108]⟩
noncomputable def wTrue : D := .str ⟨#[116, 114, 117, 101]⟩
noncomputable def tyL : List D := [.none, .tup [wInt], .tup [wStr], .tup [wInt, wStr], .tup [wMixed], .tup [.str ⟨#[115, 101, 108, 102]⟩], .tup [.str ⟨#[80, 48]⟩], .tup [wInt, wNull], .tup [.str ⟨#[98, 111, 111, 108]⟩], .tup [wTrue], .tup [wTrue, .str ⟨#[102, 97, 108, 115, 101]⟩], .tup [.str ⟨#[111, 98, 106, 101, 99, 116]⟩], .tup [.str ⟨#[118, 111, 105, 100]⟩], .tup [.str ⟨#[110, 101, 118, 101, 114]⟩]]
noncomputable def tyD (t : Nat) : D := (tyL[t]?).getD .none
noncomputable def wLit : D := .str ⟨#[108, 105, 116]⟩
noncomputable def dfL : List D := [.none, .tup [wLit, .int 1], .tup [wLit, .none], .tup [wLit, .str ⟨#[116, 119, 101, 108, 118, 101, 32, 115, 105, 103, 110, 115]⟩], .tup [.str ⟨#[98, 105, 110]⟩, .str ⟨#[43]⟩, .tup [wLit, .int 1], .tup [wLit, .int 2]], .tup [wLit, .bool true], .tup [wLit, .str ⟨#[116, 101, 110, 32, 115, 105, 103, 110, 115, 46]⟩], .tup [.str ⟨#[97, 114, 114, 97, 121]⟩, .tup []], .tup [.str ⟨#[117, 110]⟩, .str ⟨#[45]⟩, .tup [wLit, .int 5]], .tup [.str ⟨#[99, 111, 110, 115, 116]⟩, .str ⟨#[71]⟩]]
noncomputable def dfD (d : Nat) : D := (dfL[d]?).getD .none
/-- a type with null beside -/
noncomputable def plusNull : D → D
  | .tup l => .tup (l ++ [wNull])
  | d => d
/-- a parameter's type as it stands -/
noncomputable def eT (t d : Nat) (v : Bool) : D := if Nat.beq d 2 && !v && !(Nat.beq t 4) && !(Nat.beq t 7) then plusNull (tyD t) else tyD t
noncomputable def dfP (d : Nat) (v : Bool) : D := if v then .none else dfD d

/-- a parameter -/
structure Pm where
  nm : Str
  t : Nat
  d : Nat
  r : Bool
  v : Bool
noncomputable def Pm.node (p : Pm) : D := .tup [.str ⟨#[112, 97, 114, 97, 109]⟩, .str p.nm, tyD p.t, dfP p.d p.v, .bool p.r, .bool p.v, .str ⟨#[]⟩, .bool false]
noncomputable def Pm.par (p : Pm) : D := .inst 345232269677 [(1851878757, .str p.nm), (1954115685, eT p.t p.d p.v), (28258988067220596, dfP p.d p.v), (115944243488102, .bool p.r), (127482044175978041098660195, .bool p.v), (31651020294550629, .str ⟨#[]⟩), (127482043888854851916819577, .bool false)]
noncomputable def Pm.ok (p : Pm) : Prop := p.t < 12 ∧ p.d < 10

/-- tables: two functions that agree at every place of a finite range, told by one evaluation -/
noncomputable def mpL {α : Type} (f : Nat → α) : List Nat → List α
  | [] => []
  | a :: l => f a :: mpL f l
noncomputable def mpR {α : Type} (f : Nat → α) : List Nat → List α
  | [] => []
  | a :: l => f a :: mpR f l
theorem tab_mem {α : Type} {f g : Nat → α} : ∀ {l : List Nat}, mpL f l = mpR g l → ∀ {x : Nat}, x ∈ l → f x = g x
  | _ :: _, h, _, .head _ => (List.cons.inj h).1
  | _ :: _, h, _, .tail _ m => tab_mem (List.cons.inj h).2 m
theorem tab1 {α : Type} {f g : Nat → α} {n : Nat} (h : mpL f (List.range n) = mpR g (List.range n)) {x : Nat} (hx : x < n) : f x = g x := tab_mem h (List.mem_range.mpr hx)
theorem tab2 {α : Type} {f g : Nat → Nat → α} {n m : Nat} (h : mpL (fun a => mpL (f a) (List.range m)) (List.range n) = mpR (fun a => mpR (g a) (List.range m)) (List.range n)) {x y : Nat} (hx : x < n) (hy : y < m) : f x y = g x y :=
  tab1 (tab1 (f := fun a => mpL (f a) (List.range m)) (g := fun a => mpR (g a) (List.range m)) h hx) hy
theorem tab3 {α : Type} {f g : Nat → Nat → Bool → α} {n m : Nat} (h : mpL (fun a => mpL (fun b => (f a b false, f a b true)) (List.range m)) (List.range n) = mpR (fun a => mpR (fun b => (g a b false, g a b true)) (List.range m)) (List.range n)) {x y : Nat} (hx : x < n) (hy : y < m) (v : Bool) : f x y v = g x y v :=
  have e := tab2 (f := fun a b => (f a b false, f a b true)) (g := fun a b => (g a b false, g a b true)) h hx hy
  match v with
  | false => (Prod.mk.inj e).1
  | true => (Prod.mk.inj e).2
noncomputable def mbL {α : Type} (f : Bool → α) : α × α := (f false, f true)
noncomputable def mbR {α : Type} (f : Bool → α) : α × α := (f false, f true)
theorem tb1 {α : Type} {f g : Bool → α} (h : mbL f = mbR g) (v : Bool) : f v = g v :=
  match v with
  | false => (Prod.mk.inj h).1
  | true => (Prod.mk.inj h).2
theorem tb2 {α : Type} {f g : Bool → Bool → α} (h : mbL (fun a => mbL (f a)) = mbR (fun a => mbR (g a))) (a b : Bool) : f a b = g a b := tb1 (tb1 h a) b
theorem tb4 {α : Type} {f g : Bool → Bool → Bool → Bool → α} (h : mbL (fun a => mbL fun b => mbL fun c => mbL (f a b c)) = mbR (fun a => mbR fun b => mbR fun c => mbR (g a b c))) (a b c d : Bool) : f a b c d = g a b c d := tb1 (tb1 (tb1 (tb1 h a) b) c) d
theorem tb6 {α : Type} {f g : Bool → Bool → Bool → Bool → Bool → Bool → α} (h : mbL (fun a => mbL fun b => mbL fun c => mbL fun d => mbL fun e => mbL (f a b c d e)) = mbR (fun a => mbR fun b => mbR fun c => mbR fun d => mbR fun e => mbR (g a b c d e))) (a b c d e k : Bool) : f a b c d e k = g a b c d e k :=
  tb2 (tb4 h a b c d) e k
theorem len3 {α : Type} {P : List α → Prop} (h0 : P []) (h1 : ∀ a, P [a]) (h2 : ∀ a b, P [a, b]) (h3 : ∀ a b c, P [a, b, c]) : ∀ l : List α, l.length ≤ 3 → P l
  | [], _ => h0
  | [a], _ => h1 a
  | [a, b], _ => h2 a b
  | [a, b, c], _ => h3 a b c
  | _ :: _ :: _ :: _ :: _, h => absurd h (by simp)

theorem lt10 {t : Nat} (h : t < 10) : t = 0 ∨ t = 1 ∨ t = 2 ∨ t = 3 ∨ t = 4 ∨ t = 5 ∨ t = 6 ∨ t = 7 ∨ t = 8 ∨ t = 9 := (by decide +kernel : ∀ t : Fin 10, t.1 = 0 ∨ t.1 = 1 ∨ t.1 = 2 ∨ t.1 = 3 ∨ t.1 = 4 ∨ t.1 = 5 ∨ t.1 = 6 ∨ t.1 = 7 ∨ t.1 = 8 ∨ t.1 = 9) ⟨t, h⟩
theorem ev_param_of {p : Pm} (h : p.ok) (n : Nat) : (lv T (n + 3)).f 8097879367761227622 [p.node] = some p.par :=
  tab3 (f := fun t d v => (lv T (n + 3)).f 8097879367761227622 [Pm.node ⟨p.nm, t, d, p.r, v⟩]) (g := fun t d v => some (Pm.par ⟨p.nm, t, d, p.r, v⟩)) (n := 12) (m := 10) (by kernel_rfl) h.1 h.2 p.v
end Mine
end

section
open PySem PySem.W PyProof.Rows PySem.Calls
set_option maxRecDepth 100000
namespace Mine

noncomputable def parQ (nm : Str) (τ δ : D) (r v : Bool) : D := .inst 345232269677 [(1851878757, .str nm), (1954115685, τ), (28258988067220596, δ), (115944243488102, .bool r), (127482044175978041098660195, .bool v), (31651020294550629, .str ⟨#[]⟩), (127482043888854851916819577, .bool false)]
noncomputable def nodeQ (nm : Str) (τ δ : D) (r v : Bool) : D := .tup [.str ⟨#[112, 97, 114, 97, 109]⟩, .str nm, τ, δ, .bool r, .bool v, .str ⟨#[]⟩, .bool false]
noncomputable def funcQ (nm : Str) (ps : List D) (ret : D) (rf st : Bool) (vi : Str) (fl k : D) : D := .inst 1182101091 [(1851878757, .str nm), (123563833126259, .lst ps), (1651467385, .tup []), (1954115685, ret), (115944243488102, .bool rf), (115944242767214, .bool false), (1945221618120340564323, .bool st), (559184469392749484405881, .str vi), (439904986995, fl), (6515827, k), (121364843951717, .none), (1945221611459164270436, .bool false), (32497584235438963, .dct []), (1668244581, .none)]
noncomputable def methQ (nm : Str) (ps : List D) (ret : D) (rf : Bool) : D := .tup [.str ⟨#[102, 117, 110, 99]⟩, .str nm, .tup ps, ret, .tup [], .bool rf, .bool false]

/-- what is needed of a parameter's form -/
structure Qm where
  nm : Str
  τ₀ : D
  τ : D
  δ : D
  r : Bool
  v : Bool
noncomputable def Qm.par (q : Qm) : D := parQ q.nm q.τ q.δ q.r q.v
noncomputable def Qm.node (q : Qm) : D := nodeQ q.nm q.τ₀ q.δ q.r q.v
noncomputable def Qm.bare (q : Qm) : Bool := match q.δ with
  | .none => !q.v
  | _ => false
noncomputable def Qm.ok (q : Qm) : Prop := q.δ = .none ∨ ∃ l, q.δ = .tup l
/-- how many parameters are asked for -/
noncomputable def reqQ : List Qm → Nat
  | [] => 0
  | q :: r => match reqQ r with
    | 0 => if q.bare then 1 else 0
    | k + 1 => k + 2
theorem reqQ_le : ∀ qs : List Qm, reqQ qs ≤ qs.length
  | [] => Nat.le_refl _
  | q :: r => by
    have := reqQ_le r
    show (match reqQ r with | 0 => if q.bare then 1 else 0 | k + 1 => k + 2) ≤ r.length + 1
    generalize reqQ r = x at this
    cases x with
    | zero => cases q.bare <;> exact Nat.le_add_left _ _
    | succ k => exact Nat.succ_le_succ this

noncomputable def dlD (b : Bool) (l : List D) : D := match b with
  | true => .none
  | false => .tup l
theorem Qm.ok.dl {q : Qm} (h : q.ok) : ∃ b l, q.δ = dlD b l := h.elim (fun e => ⟨true, [], e⟩) fun ⟨l, e⟩ => ⟨false, l, e⟩
theorem ev_required {nm vi : Str} {ret fl k : D} {rf st : Bool} {qs : List Qm} (h : qs.length ≤ 3) (ok : ∀ q ∈ qs, q.ok) (n : Nat) : (lv T (n + 2)).f 8243119442065778020 [funcQ nm (qs.map Qm.par) ret rf st vi fl k] = some (.int (reqQ qs)) := by
  refine len3 (P := fun qs : List Qm => (∀ q ∈ qs, q.ok) → (lv T (n + 2)).f 8243119442065778020 [funcQ nm (qs.map Qm.par) ret rf st vi fl k] = some (.int (reqQ qs))) (fun _ => by kernel_rfl) (fun q0 ok => ?_) (fun q0 q1 ok => ?_) (fun q0 q1 q2 ok => ?_) qs h ok
  · obtain ⟨a0, l0, e0⟩ := (ok _ (List.mem_cons_self ..)).dl
    obtain ⟨n0, s0, t0, d0, r0, v0⟩ := q0
    cases e0
    clear ok
    revert a0 v0
    exact tb2 (by kernel_rfl)
  · obtain ⟨a0, l0, e0⟩ := (ok _ (List.mem_cons_self ..)).dl
    obtain ⟨a1, l1, e1⟩ := (ok _ (List.mem_cons_of_mem _ (List.mem_cons_self ..))).dl
    obtain ⟨n0, s0, t0, d0, r0, v0⟩ := q0
    obtain ⟨n1, s1, t1, d1, r1, v1⟩ := q1
    cases e0; cases e1
    clear ok
    revert a0 a1 v0 v1
    exact tb4 (by kernel_rfl)
  · obtain ⟨a0, l0, e0⟩ := (ok _ (List.mem_cons_self ..)).dl
    obtain ⟨a1, l1, e1⟩ := (ok _ (List.mem_cons_of_mem _ (List.mem_cons_self ..))).dl
    obtain ⟨a2, l2, e2⟩ := (ok _ (List.mem_cons_of_mem _ (List.mem_cons_of_mem _ (List.mem_cons_self ..)))).dl
    obtain ⟨n0, s0, t0, d0, r0, v0⟩ := q0
    obtain ⟨n1, s1, t1, d1, r1, v1⟩ := q1
    obtain ⟨n2, s2, t2, d2, r2, v2⟩ := q2
    cases e0; cases e1; cases e2
    clear ok
    revert a0 a1 a2 v0 v1 v2
    exact tb6 (by kernel_rfl)
theorem ev_least {nm : Str} {ret : D} {rf : Bool} {qs : List Qm} (h : qs.length ≤ 3) (ok : ∀ q ∈ qs, q.ok) (n : Nat) : (lv T (n + 2)).f 450624087419639996445556 [methQ nm (qs.map Qm.node) ret rf] = some (.int (reqQ qs)) := by
  refine len3 (P := fun qs : List Qm => (∀ q ∈ qs, q.ok) → (lv T (n + 2)).f 450624087419639996445556 [methQ nm (qs.map Qm.node) ret rf] = some (.int (reqQ qs))) (fun _ => by kernel_rfl) (fun q0 ok => ?_) (fun q0 q1 ok => ?_) (fun q0 q1 q2 ok => ?_) qs h ok
  · obtain ⟨a0, l0, e0⟩ := (ok _ (List.mem_cons_self ..)).dl
    obtain ⟨n0, s0, t0, d0, r0, v0⟩ := q0
    cases e0
    clear ok
    revert a0 v0
    exact tb2 (by kernel_rfl)
  · obtain ⟨a0, l0, e0⟩ := (ok _ (List.mem_cons_self ..)).dl
    obtain ⟨a1, l1, e1⟩ := (ok _ (List.mem_cons_of_mem _ (List.mem_cons_self ..))).dl
    obtain ⟨n0, s0, t0, d0, r0, v0⟩ := q0
    obtain ⟨n1, s1, t1, d1, r1, v1⟩ := q1
    cases e0; cases e1
    clear ok
    revert a0 a1 v0 v1
    exact tb4 (by kernel_rfl)
  · obtain ⟨a0, l0, e0⟩ := (ok _ (List.mem_cons_self ..)).dl
    obtain ⟨a1, l1, e1⟩ := (ok _ (List.mem_cons_of_mem _ (List.mem_cons_self ..))).dl
    obtain ⟨a2, l2, e2⟩ := (ok _ (List.mem_cons_of_mem _ (List.mem_cons_of_mem _ (List.mem_cons_self ..)))).dl
    obtain ⟨n0, s0, t0, d0, r0, v0⟩ := q0
    obtain ⟨n1, s1, t1, d1, r1, v1⟩ := q1
    obtain ⟨n2, s2, t2, d2, r2, v2⟩ := q2
    cases e0; cases e1; cases e2
    clear ok
    revert a0 a1 a2 v0 v1 v2
    exact tb6 (by kernel_rfl)
end Mine
end

section
open PySem PySem.W PyProof.Rows PySem.Calls
set_option maxRecDepth 100000
namespace Mine

noncomputable def lastV : List Qm → Option Qm
  | [] => none
  | [q] => if q.v then some q else none
  | _ :: r => lastV r
noncomputable def atQ (qs : List Qm) (k : Nat) : Option Qm := match qs, k with
  | q :: _, 0 => some q
  | _ :: b :: r, k + 1 => atQ (b :: r) k
  | [q], _ + 1 => if q.v then some q else none
  | [], _ => none
noncomputable def optD (f : Qm → D) : Option Qm → D
  | none => .none
  | some q => f q
theorem lt4 {t : Nat} (h : t < 4) : t = 0 ∨ t = 1 ∨ t = 2 ∨ t = 3 := (by decide +kernel : ∀ t : Fin 4, t.1 = 0 ∨ t.1 = 1 ∨ t.1 = 2 ∨ t.1 = 3) ⟨t, h⟩
noncomputable def Qm.setV (q : Qm) (v : Bool) : Qm := ⟨q.nm, q.τ₀, q.τ, q.δ, q.r, v⟩
theorem ev_param_at {nm vi : Str} {ret fl k : D} {rf st : Bool} {qs : List Qm} (h : qs.length ≤ 3) {i : Nat} (hi : i < 4) (n : Nat) : (lv T (n + 2)).f 8097879367761224052 [funcQ nm (qs.map Qm.par) ret rf st vi fl k, .int i] = some (optD Qm.par (atQ qs i)) :=
  len3 (P := fun qs : List Qm => (lv T (n + 2)).f 8097879367761224052 [funcQ nm (qs.map Qm.par) ret rf st vi fl k, .int i] = some (optD Qm.par (atQ qs i)))
    (tab1 (f := fun i => (lv T (n + 2)).f 8097879367761224052 [funcQ nm (([] : List Qm).map Qm.par) ret rf st vi fl k, .int (Int.ofNat i)]) (g := fun i => some (optD Qm.par (atQ [] i))) (by kernel_rfl) hi)
    (fun a => tab1 (tb1 (f := fun v => mpL (fun i => (lv T (n + 2)).f 8097879367761224052 [funcQ nm ([a.setV v].map Qm.par) ret rf st vi fl k, .int (Int.ofNat i)]) (List.range 4)) (g := fun v => mpR (fun i => some (optD Qm.par (atQ [a.setV v] i))) (List.range 4)) (by kernel_rfl) a.v) hi)
    (fun b a => tab1 (tb1 (f := fun v => mpL (fun i => (lv T (n + 2)).f 8097879367761224052 [funcQ nm ([b, a.setV v].map Qm.par) ret rf st vi fl k, .int (Int.ofNat i)]) (List.range 4)) (g := fun v => mpR (fun i => some (optD Qm.par (atQ [b, a.setV v] i))) (List.range 4)) (by kernel_rfl) a.v) hi)
    (fun b c a => tab1 (tb1 (f := fun v => mpL (fun i => (lv T (n + 2)).f 8097879367761224052 [funcQ nm ([b, c, a.setV v].map Qm.par) ret rf st vi fl k, .int (Int.ofNat i)]) (List.range 4)) (g := fun v => mpR (fun i => some (optD Qm.par (atQ [b, c, a.setV v] i))) (List.range 4)) (by kernel_rfl) a.v) hi) qs h
noncomputable def isVarQ (qs : List Qm) : Bool := (lastV qs).isSome
theorem ev_is_variadic {nm vi : Str} {ret fl k : D} {rf st : Bool} {qs : List Qm} (h : qs.length ≤ 3) (n : Nat) : (lv T (n + 2)).f 127482044175978041098660195 [funcQ nm (qs.map Qm.par) ret rf st vi fl k] = some (.bool (isVarQ qs)) :=
  len3 (P := fun qs : List Qm => (lv T (n + 2)).f 127482044175978041098660195 [funcQ nm (qs.map Qm.par) ret rf st vi fl k] = some (.bool (isVarQ qs))) (by kernel_rfl)
    (fun a => tb1 (f := fun v => (lv T (n + 2)).f 127482044175978041098660195 [funcQ nm ([a.setV v].map Qm.par) ret rf st vi fl k]) (g := fun v => some (.bool (isVarQ [a.setV v]))) (by kernel_rfl) a.v)
    (fun b a => tb1 (f := fun v => (lv T (n + 2)).f 127482044175978041098660195 [funcQ nm ([b, a.setV v].map Qm.par) ret rf st vi fl k]) (g := fun v => some (.bool (isVarQ [b, a.setV v]))) (by kernel_rfl) a.v)
    (fun b c a => tb1 (f := fun v => (lv T (n + 2)).f 127482044175978041098660195 [funcQ nm ([b, c, a.setV v].map Qm.par) ret rf st vi fl k]) (g := fun v => some (.bool (isVarQ [b, c, a.setV v]))) (by kernel_rfl) a.v) qs h
end Mine
end

section
open PySem PySem.W PyProof.Rows PySem.Calls
set_option maxRecDepth 100000
namespace Mine

noncomputable def layD (d : D) : Prop := ∃ x, toPy d = some x ∧ x.canLay0 = true ∧ x.depth ≤ 20
theorem layDs : ∀ {l : List D}, (∀ d ∈ l, layD d) → ∃ xs, toPys l = some xs ∧ PyData.canLayAll0 xs = true ∧ PyData.depthAll xs ≤ 20 ∧ xs.length = l.length
  | [], _ => ⟨[], rfl, by simp [PyData.canLayAll0], by simp [PyData.depthAll], rfl⟩
  | d :: l, h => by
    refine hide fun Gg kg => ?_
    obtain ⟨x, h1, h2, h3⟩ := h d (List.mem_cons_self ..)
    obtain ⟨xs, g1, g2, g3, g4⟩ := layDs (l := l) fun e he => h e (List.mem_cons_of_mem _ he)
    refine kg ?_; clear kg Gg
    refine ⟨x :: xs, by simp [toPys, h1, g1], by simp [PyData.canLayAll0, h2, g2], ?_, by simp [g4]⟩
    simp only [PyData.depthAll]
    omega
theorem eq_nil {l : List D} (h : ∀ d ∈ l, layD d) (hne : l ≠ []) : eqD (.tup l) (.tup []) = some false := by
  refine (layDs h).elim fun xs H => ?_
  have h1 := H.1; have h2 := H.2.1; have h3 := H.2.2.1; have h4 := H.2.2.2; clear H
  have e1 : toPy (.tup l) = some (.tuple xs) := by simp [toPy, h1]
  have e2 : toPy (.tup []) = some (.tuple []) := rfl
  show eqT (.tup l) (.tup []) = _
  unfold eqT
  rw [e1, e2]
  dsimp only
  have c1 : (PyData.tuple xs).canLay0 = true := by simp [PyData.canLay0, h2]
  have c2 : (PyData.tuple []).canLay0 = true := by simp [PyData.canLay0, PyData.canLayAll0]
  have c3 : Nat.ble (PyData.tuple xs).depth 64 = true := Nat.ble_eq_true_of_le (by simp only [PyData.depth]; omega)
  rw [c1, c2, c3, if_pos (by decide)]
  cases xs with
  | nil => exact absurd (List.length_eq_zero_iff.mp h4.symm) hne
  | cons x r => rfl

section
variable {Γ : Nat → List D → Option D} {Γm : Nat → D → List D → Option D} {isi : D → Nat → Option Bool} {kn : Nat → Bool} {fo : Nat → Nat → Bool} {Γk : Nat → List D → Option (List (Nat × D))} {Γu : Nat → Nat → List (Nat × D) → List D → Option (List (Nat × D))}
variable {p : PS} {r : List PS} {ρ ρ₁ : List (Nat × D)} {o o₁ : Option (Nat × D)} {d x y : D} {b c : Bool} {e e1 e2 t : PE} {l : List PE} {ds : List D}
theorem b_ret (h : evS Γ Γm isi kn fo Γk Γu p ρ o = some (.ret d)) : evB Γ Γm isi kn fo Γk Γu (p :: r) ρ o = some (.ret d) := jRt h
theorem b_next {x : Option Out} (h : evS Γ Γm isi kn fo Γk Γu p ρ o = some (.next ρ₁ o₁)) (h2 : evB Γ Γm isi kn fo Γk Γu r ρ₁ o₁ = x) : evB Γ Γm isi kn fo Γk Γu (p :: r) ρ o = x := jNx h h2
theorem b_nil : evB Γ Γm isi kn fo Γk Γu [] ρ o = some (.next ρ o) := rfl
theorem s_ret (h : evE Γ Γm isi kn fo e ρ = some d) : evS Γ Γm isi kn fo Γk Γu (.ret e) ρ none = some (.ret d) := jD h rfl
theorem s_asg {n : Nat} (h : evE Γ Γm isi kn fo e ρ = some d) : evS Γ Γm isi kn fo Γk Γu (.asg n e) ρ none = some (.next (put ρ n d) none) := jB (free_none (x := n)) (jD (evP_e h) rfl)
theorem s_iteT {a b : List PS} {z : Option Out} (h : evE Γ Γm isi kn fo t ρ = some (.bool true)) (h2 : evB Γ Γm isi kn fo Γk Γu a ρ none = z) : evS Γ Γm isi kn fo Γk Γu (.ite t a b) ρ none = z := jT h h2
theorem s_iteF {a b : List PS} {z : Option Out} (h : evE Γ Γm isi kn fo t ρ = some (.bool false)) (h2 : evB Γ Γm isi kn fo Γk Γu b ρ none = z) : evS Γ Γm isi kn fo Γk Γu (.ite t a b) ρ none = z := jF h h2
theorem e_call {f : Nat} (hl : evEs Γ Γm isi kn fo l ρ = some ds) (h : Γ f ds = some d) : evE Γ Γm isi kn fo (.call f l) ρ = some d := jL hl h
theorem e_cmp {op : CmpOp} (h1 : evE Γ Γm isi kn fo e1 ρ = some x) (h2 : evE Γ Γm isi kn fo e2 ρ = some y) (h : cmpD op x y = some b) : evE Γ Γm isi kn fo (.cmp op e1 e2) ρ = some (.bool b) := jD h1 (jD h2 (jM h))
theorem e_bin {op : Operator} (h1 : evE Γ Γm isi kn fo e1 ρ = some x) (h2 : evE Γ Γm isi kn fo e2 ρ = some y) (h : binD op x y = some d) : evE Γ Γm isi kn fo (.bin op e1 e2) ρ = some d := jD h1 (jD h2 h)
theorem and_1 (h1 : evE Γ Γm isi kn fo e1 ρ = some (.bool b)) : evAnd Γ Γm isi kn fo [e1] ρ = some b := jBo h1 rfl
theorem or_1 (h1 : evE Γ Γm isi kn fo e1 ρ = some (.bool b)) : evOr Γ Γm isi kn fo [e1] ρ = some b := jBo h1 rfl
theorem and_c (h1 : evE Γ Γm isi kn fo e1 ρ = some (.bool b)) (h2 : b = true → evAnd Γ Γm isi kn fo (e2 :: l) ρ = some c) : evAnd Γ Γm isi kn fo (e1 :: e2 :: l) ρ = some (b && c) := by
  cases b
  · exact jF h1 rfl
  · exact jT h1 (h2 rfl)
theorem or_c (h1 : evE Γ Γm isi kn fo e1 ρ = some (.bool b)) (h2 : b = false → evOr Γ Γm isi kn fo (e2 :: l) ρ = some c) : evOr Γ Γm isi kn fo (e1 :: e2 :: l) ρ = some (b || c) := by
  cases b
  · exact jF h1 (h2 rfl)
  · exact jT h1 rfl
theorem e_and2 (h1 : evE Γ Γm isi kn fo e1 ρ = some (.bool b)) (h2 : b = true → evE Γ Γm isi kn fo e2 ρ = some (.bool c)) : evE Γ Γm isi kn fo (.and [e1, e2]) ρ = some (.bool (b && c)) := jM (and_c h1 fun q => and_1 (h2 q))
theorem e_or2 (h1 : evE Γ Γm isi kn fo e1 ρ = some (.bool b)) (h2 : b = false → evE Γ Γm isi kn fo e2 ρ = some (.bool c)) : evE Γ Γm isi kn fo (.or [e1, e2]) ρ = some (.bool (b || c)) := jM (or_c h1 fun q => or_1 (h2 q))
theorem e_not (h1 : evE Γ Γm isi kn fo e1 ρ = some (.bool b)) : evE Γ Γm isi kn fo (.not e1) ρ = some (.bool (!b)) := jBo h1 rfl
theorem e_ite {e3 : PE} (h1 : evE Γ Γm isi kn fo t ρ = some (.bool b)) (h2 : b = true → evE Γ Γm isi kn fo e1 ρ = some x) (h3 : b = false → evE Γ Γm isi kn fo e3 ρ = some y) : evE Γ Γm isi kn fo (.ite t e1 e3) ρ = some (if b then x else y) := by
  cases b
  · exact jF h1 (h3 rfl)
  · exact jT h1 (h2 rfl)
theorem e_es1 (h : evE Γ Γm isi kn fo e ρ = some d) (h2 : evEs Γ Γm isi kn fo l ρ = some ds) : evEs Γ Γm isi kn fo (e :: l) ρ = some (d :: ds) := jD h (jL h2 rfl)
end

theorem ev_law_at {nm : Str} {ret : D} {rf : Bool} {qs : List Qm} (h : qs.length ≤ 3) (lay : ∀ q ∈ qs, layD q.node) {i : Nat} (hi : i < 4) (n : Nat) : (lv T (n + 2)).f 26859288657879412 [methQ nm (qs.map Qm.node) ret rf, .int i] = some (optD Qm.node (atQ qs i)) := by
  have hne : qs ≠ [] → cmpD .NotEq (.tup (qs.map Qm.node)) (.tup []) = some true := fun hne => by
    simp only [cmpD]
    rw [eq_nil (fun d hd => by obtain ⟨q, hq, rfl⟩ := List.mem_map.mp hd; exact lay q hq) (by simpa using hne)]
    rfl
  refine len3 (P := fun qs : List Qm => (qs ≠ [] → cmpD .NotEq (.tup (qs.map Qm.node)) (.tup []) = some true) → (lv T (n + 2)).f 26859288657879412 [methQ nm (qs.map Qm.node) ret rf, .int i] = some (optD Qm.node (atQ qs i))) (fun _ => ?_) (fun q0 hne => ?_) (fun q0 q1 hne => ?_) (fun q0 q1 q2 hne => ?_) qs h hne
  · rcases lt4 hi with rfl | rfl | rfl | rfl <;> kernel_rfl
  · by_cases hk : i < 1
    · rcases (show i = 0 by omega) with rfl <;> kernel_rfl
    · have ea : atQ [q0] i = if q0.v then some q0 else none := by
        rcases (show i = 1 ∨ i = 2 ∨ i = 3 by omega) with rfl | rfl | rfl <;> rfl
      rw [ea]
      refine lvf (fn := f__law_at) (by kernel_rfl) (ρ := [(1852793957, methQ nm ([q0].map Qm.node) ret rf), (107, .int i)]) (by kernel_rfl) ?_
      refine b_next (s_iteF (e_cmp (x := .int i) (y := .int ([q0] : List Qm).length) (by kernel_rfl) (by kernel_rfl) (congrArg some (decide_eq_false (by simp only [List.length_cons, List.length_nil]; omega)))) b_nil) (b_ret (s_ret ?_))
      refine Eq.trans (e_ite (x := q0.node) (y := .none) (e_and2 (c := q0.v) (e_cmp (b := true) (x := .tup ([q0].map Qm.node)) (y := .tup []) (by kernel_rfl) (by kernel_rfl) (hne (by simp))) fun _ => by kernel_rfl) (fun _ => by kernel_rfl) (fun _ => by kernel_rfl)) ?_
      cases q0.v <;> rfl
  · by_cases hk : i < 2
    · rcases (show i = 0 ∨ i = 1 by omega) with rfl | rfl <;> kernel_rfl
    · have ea : atQ [q0, q1] i = if q1.v then some q1 else none := by
        rcases (show i = 2 ∨ i = 3 by omega) with rfl | rfl <;> rfl
      rw [ea]
      refine lvf (fn := f__law_at) (by kernel_rfl) (ρ := [(1852793957, methQ nm ([q0, q1].map Qm.node) ret rf), (107, .int i)]) (by kernel_rfl) ?_
      refine b_next (s_iteF (e_cmp (x := .int i) (y := .int ([q0, q1] : List Qm).length) (by kernel_rfl) (by kernel_rfl) (congrArg some (decide_eq_false (by simp only [List.length_cons, List.length_nil]; omega)))) b_nil) (b_ret (s_ret ?_))
      refine Eq.trans (e_ite (x := q1.node) (y := .none) (e_and2 (c := q1.v) (e_cmp (b := true) (x := .tup ([q0, q1].map Qm.node)) (y := .tup []) (by kernel_rfl) (by kernel_rfl) (hne (by simp))) fun _ => by kernel_rfl) (fun _ => by kernel_rfl) (fun _ => by kernel_rfl)) ?_
      cases q1.v <;> rfl
  · by_cases hk : i < 3
    · rcases (show i = 0 ∨ i = 1 ∨ i = 2 by omega) with rfl | rfl | rfl <;> kernel_rfl
    · have ea : atQ [q0, q1, q2] i = if q2.v then some q2 else none := by
        rcases (show i = 3 by omega) with rfl <;> rfl
      rw [ea]
      refine lvf (fn := f__law_at) (by kernel_rfl) (ρ := [(1852793957, methQ nm ([q0, q1, q2].map Qm.node) ret rf), (107, .int i)]) (by kernel_rfl) ?_
      refine b_next (s_iteF (e_cmp (x := .int i) (y := .int ([q0, q1, q2] : List Qm).length) (by kernel_rfl) (by kernel_rfl) (congrArg some (decide_eq_false (by simp only [List.length_cons, List.length_nil]; omega)))) b_nil) (b_ret (s_ret ?_))
      refine Eq.trans (e_ite (x := q2.node) (y := .none) (e_and2 (c := q2.v) (e_cmp (b := true) (x := .tup ([q0, q1, q2].map Qm.node)) (y := .tup []) (by kernel_rfl) (by kernel_rfl) (hne (by simp))) fun _ => by kernel_rfl) (fun _ => by kernel_rfl) (fun _ => by kernel_rfl)) ?_
      cases q2.v <;> rfl
end Mine
end

section
open PySem PySem.W PyProof.Rows PySem.Calls
set_option maxRecDepth 100000
namespace Mine

section
variable {Γ : Nat → List D → Option D} {Γm : Nat → D → List D → Option D} {isi : D → Nat → Option Bool} {kn : Nat → Bool} {fo : Nat → Nat → Bool} {Γk : Nat → List D → Option (List (Nat × D))} {Γu : Nat → Nat → List (Nat × D) → List D → Option (List (Nat × D))}
variable {p : PS} {r : List PS} {ρ ρ₁ : List (Nat × D)} {o o₁ : Option (Nat × D)} {d x y : D} {b c : Bool} {e e1 e2 t : PE} {l : List PE} {ds : List D}
theorem e_var {n : Nat} (h : look ρ n = some d) : evE Γ Γm isi kn fo (.var n) ρ = some d := h
theorem e_attr {n : Nat} (h : evE Γ Γm isi kn fo e ρ = some x) (h2 : attrD fo x n = some d) : evE Γ Γm isi kn fo (.attr e n) ρ = some d := jD h h2
theorem e_item (h : evE Γ Γm isi kn fo e ρ = some x) (h1 : evE Γ Γm isi kn fo e1 ρ = some y) (h2 : itemD x y = some d) : evE Γ Γm isi kn fo (.item e e1) ρ = some d := jD h (jD h1 h2)
theorem e_none : evE Γ Γm isi kn fo .none ρ = some .none := rfl
theorem e_bool : evE Γ Γm isi kn fo (.bool b) ρ = some (.bool b) := rfl
theorem e_int {i : Int} : evE Γ Γm isi kn fo (.int i) ρ = some (.int i) := rfl
theorem e_str {s : Str} : evE Γ Γm isi kn fo (.str s) ρ = some (.str s) := rfl
theorem e_nil : evEs Γ Γm isi kn fo [] ρ = some [] := rfl
theorem lk_eq {n : Nat} : look (put ρ n d) n = some d := by rw [look_put, if_pos rfl]
theorem lk_ne {n m : Nat} (h : Nat.beq m n = false) (h2 : look ρ m = some x) : look (put ρ n d) m = some x := by
  rw [look_put, if_neg (by intro q; subst q; simp at h)]; exact h2
theorem s_for {x : Nat} {it : PE} {body : List PS} {src : D} {z : Option Out} (h : evE Γ Γm isi kn fo it ρ = some src) (hi : itemsD src = some ds) (hl : Nat.ble ds.length 1000 = true) (hz : forM (fun ρ o => evB Γ Γm isi kn fo Γk Γu body ρ o) x ds ρ none = z) :
    evS Γ Γm isi kn fo Γk Γu (.for x it body) ρ none = z := jD (evP_e h) (jL hi (jB hl hz))
end

/-- a loop that goes on while all is good -/
theorem forM_all {bf : List (Nat × D) → Option (Nat × D) → Option Out} {x : Nat} (Inv : List (Nat × D) → Prop) (good : D → Bool) (r : D) : ∀ (ds : List D) (ρ : List (Nat × D)), Inv ρ →
    (∀ d ∈ ds, ∀ ρ, Inv ρ → if good d then ∃ ρ', (bf (put ρ x d) none = some (.next ρ' none) ∨ bf (put ρ x d) none = some (.cont ρ' none)) ∧ Inv ρ' else bf (put ρ x d) none = some (.ret r)) →
    if ds.all good then ∃ ρ', forM bf x ds ρ none = some (.next ρ' none) ∧ Inv ρ' else forM bf x ds ρ none = some (.ret r)
  | [], ρ, hI, _ => ⟨ρ, rfl, hI⟩
  | d :: ds, ρ, hI, h => by
    have h1 := h d (List.mem_cons_self ..) ρ hI
    cases g : good d with
    | false =>
      rw [g] at h1
      have h1 : bf (put ρ x d) none = some (.ret r) := by simpa using h1
      simp only [List.all_cons, g, Bool.false_and, Bool.false_eq_true, if_false, forM, free_none, if_true, h1]
    | true =>
      rw [g] at h1
      refine hide fun Gg kg => ?_
      obtain ⟨ρ', h2, h3⟩ : ∃ ρ', (bf (put ρ x d) none = some (.next ρ' none) ∨ bf (put ρ x d) none = some (.cont ρ' none)) ∧ Inv ρ' := by simpa using h1
      refine kg ?_; clear kg Gg
      have ih := forM_all Inv good r ds ρ' h3 fun e he => h e (List.mem_cons_of_mem _ he)
      have e1 : forM bf x (d :: ds) ρ none = forM bf x ds ρ' none := by
        rcases h2 with h2 | h2 <;> simp only [forM, free_none, if_true, h2]
      rw [List.all_cons, g, Bool.true_and, e1]
      exact ih

section
variable {n : Nat}
noncomputable def okAt (pf : Qm → Qm → Bool) (qs qb : List Qm) (i : Nat) : Bool := match atQ qb i with
  | none => true
  | some a => match atQ qs i with
    | none => false
    | some o => pf o a
noncomputable def fitB (pf : Qm → Qm → Bool) (rt : Bool) (qs qb : List Qm) (srf brf : Bool) : Bool := !(decide (reqQ qs > reqQ qb) || (brf && !srf)) && !(isVarQ qb && !isVarQ qs) && (List.range (max qs.length qb.length)).all (okAt pf qs qb) && rt
theorem isNot_none {q : Option Qm} {f : Qm → D} (h : ∀ q, cmpD .IsNot (f q) .none = some true) : cmpD .IsNot (optD f q) .none = some q.isSome := by
  cases q with
  | none => rfl
  | some q => exact h q
theorem is_none {q : Option Qm} {f : Qm → D} (h : ∀ q, cmpD .Is (f q) .none = some false) : cmpD .Is (optD f q) .none = some q.isNone := by
  cases q with
  | none => rfl
  | some q => exact h q

theorem atQ_mem : ∀ {qs : List Qm} {i : Nat} {q : Qm}, atQ qs i = some q → q ∈ qs
  | q :: _, 0, _, e => by simp only [atQ, Option.some.injEq] at e; subst e; exact List.mem_cons_self ..
  | [q], i + 1, q', e => by
    simp only [atQ] at e
    split at e
    · cases e; exact List.mem_cons_self ..
    · cases e
  | _ :: b :: r, i + 1, q, e => by
    simp only [atQ] at e
    exact List.mem_cons_of_mem _ (atQ_mem e)
  | [], _, _, e => by simp [atQ] at e

theorem ev_range {H k0 k1 : D} {nm nm' vi vi' : Str} {ret ret' fl fl' c c' : D} {rf rf' st st' : Bool} {qs qb : List Qm} (hs : qs.length ≤ 3) (hb : qb.length ≤ 3) (n : Nat) :
    evE (lv T (n + 1)).f (lv T (n + 1)).m isiT (knT T) (foT T) (.call 491260897125 [.call 7168376 [.call 7103854 [.attr (.var 7566690) 123563833126259], .call 7103854 [.attr (.var 1650553701) 123563833126259]]]) [(1752134516, H), (7566690, funcQ nm (qs.map Qm.par) ret rf st vi fl c), (2129833996441738113907, k1), (1650553701, funcQ nm' (qb.map Qm.par) ret' rf' st' vi' fl' c'), (464589564653577051403123, k0)] = some (.rng (max qs.length qb.length)) := by
  apply len3 ?_ ?_ ?_ ?_ qs hs
  · apply len3 ?_ ?_ ?_ ?_ qb hb
    · kernel_rfl
    · intro _; kernel_rfl
    · intro _ _; kernel_rfl
    · intro _ _ _; kernel_rfl
  · intro _
    apply len3 ?_ ?_ ?_ ?_ qb hb
    · kernel_rfl
    · intro _; kernel_rfl
    · intro _ _; kernel_rfl
    · intro _ _ _; kernel_rfl
  · intro _ _
    apply len3 ?_ ?_ ?_ ?_ qb hb
    · kernel_rfl
    · intro _; kernel_rfl
    · intro _ _; kernel_rfl
    · intro _ _ _; kernel_rfl
  · intro _ _ _
    apply len3 ?_ ?_ ?_ ?_ qb hb
    · kernel_rfl
    · intro _; kernel_rfl
    · intro _ _; kernel_rfl
    · intro _ _ _; kernel_rfl
noncomputable def goodI (ok : Nat → Bool) : D → Bool
  | .int (.ofNat i) => ok i
  | _ => true
theorem all_range {ok : Nat → Bool} {m : Nat} : ((List.range m).map fun (i : Nat) => D.int i).all (goodI ok) = (List.range m).all ok := by
  rw [List.all_map]
  rfl

theorem ev_fits_as {H k0 k1 : D} {nm nm' vi vi' : Str} {ret ret' fl fl' c c' : D} {rf rf' st st' : Bool} {qs qb : List Qm} (hs : qs.length ≤ 3) (hb : qb.length ≤ 3) (oks : ∀ q ∈ qs, q.ok) (okb : ∀ q ∈ qb, q.ok) (nr : notTop ret = true) (nr' : notTop ret' = true) {pf : Qm → Qm → Bool} {rt : Bool}
    (hpf : ∀ n, ∀ q ∈ qs, ∀ a ∈ qb, (lv T (n + 7)).f 530702622245599662666867 [H, q.par, k1, a.par, k0] = some (.bool (pf q a))) (hrt : ∀ n, (lv T (n + 7)).f 497976734239910992113765 [H, ret, k1, ret', k0] = some (.bool rt)) (n : Nat) :
    (lv T (n + 8)).f 28826396497240435 [H, funcQ nm (qs.map Qm.par) ret rf st vi fl c, k1, funcQ nm' (qb.map Qm.par) ret' rf' st' vi' fl' c', k0] = some (.bool (fitB pf rt qs qb rf rf')) := by
  have R1 := ev_required (nm := nm) (vi := vi) (ret := ret) (fl := fl) (k := c) (rf := rf) (st := st) hs oks (n + 5)
  have R2 := ev_required (nm := nm') (vi := vi') (ret := ret') (fl := fl') (k := c') (rf := rf') (st := st') hb okb (n + 5)
  have V1 := ev_is_variadic (nm := nm) (vi := vi) (ret := ret) (fl := fl) (k := c) (rf := rf) (st := st) hs (n + 5)
  have V2 := ev_is_variadic (nm := nm') (vi := vi') (ret := ret') (fl := fl') (k := c') (rf := rf') (st := st') hb (n + 5)
  have P1 : ∀ i : Nat, i < 4 → (lv T (n + 7)).f 8097879367761224052 [funcQ nm (qs.map Qm.par) ret rf st vi fl c, .int i] = some (optD Qm.par (atQ qs i)) := fun i hi => ev_param_at hs hi (n + 5)
  have P2 : ∀ i : Nat, i < 4 → (lv T (n + 7)).f 8097879367761224052 [funcQ nm' (qb.map Qm.par) ret' rf' st' vi' fl' c', .int i] = some (optD Qm.par (atQ qb i)) := fun i hi => ev_param_at hb hi (n + 5)
  have HR := ev_range (H := H) (k0 := k0) (k1 := k1) (nm := nm) (nm' := nm') (vi := vi) (vi' := vi') (ret := ret) (ret' := ret') (fl := fl) (fl' := fl') (c := c) (c' := c') (rf := rf) (rf' := rf') (st := st) (st' := st') hs hb (n + 6)
  generalize hS : funcQ nm (qs.map Qm.par) ret rf st vi fl c = S at *
  generalize hB : funcQ nm' (qb.map Qm.par) ret' rf' st' vi' fl' c' = B at *
  have aS1 : attrD (foT T) S 115944243488102 = some (.bool rf) := by rw [← hS]; kernel_rfl
  have aB1 : attrD (foT T) B 115944243488102 = some (.bool rf') := by rw [← hB]; kernel_rfl
  refine lvf (n := n + 7) (fn := f_fits_as) (by kernel_rfl) (ρ := [(1752134516, H), (7566690, S), (2129833996441738113907, k1), (1650553701, B), (464589564653577051403123, k0)]) (by kernel_rfl) ?_
  have C1 : cmpD .Gt (.int (reqQ qs)) (.int (reqQ qb)) = some (decide (reqQ qs > reqQ qb)) := c_gt _ _
  cases hc1 : (decide (reqQ qs > reqQ qb) || (rf' && !rf)) with
  | true =>
    have : fitB pf rt qs qb rf rf' = false := by unfold fitB; rw [hc1]; rfl
    rw [this]
    exact b_ret (s_iteT (Eq.trans (e_or2 (e_cmp (e_call (by kernel_rfl) R1) (e_call (by kernel_rfl) R2) C1) fun _ => e_and2 (e_attr (by kernel_rfl) aB1) fun _ => e_not (e_attr (by kernel_rfl) aS1)) (by rw [hc1])) (b_ret (s_ret e_bool)))
  | false =>
    refine b_next (s_iteF (Eq.trans (e_or2 (e_cmp (e_call (by kernel_rfl) R1) (e_call (by kernel_rfl) R2) C1) fun _ => e_and2 (e_attr (by kernel_rfl) aB1) fun _ => e_not (e_attr (by kernel_rfl) aS1)) (by rw [hc1])) b_nil) ?_
    cases hc2 : (isVarQ qb && !isVarQ qs) with
    | true =>
      have : fitB pf rt qs qb rf rf' = false := by unfold fitB; rw [hc1, hc2]; rfl
      rw [this]
      exact b_ret (s_iteT (Eq.trans (e_and2 (e_call (by kernel_rfl) V2) fun _ => e_not (e_call (by kernel_rfl) V1)) (by rw [hc2])) (b_ret (s_ret e_bool)))
    | false =>
      refine b_next (s_iteF (Eq.trans (e_and2 (e_call (by kernel_rfl) V2) fun _ => e_not (e_call (by kernel_rfl) V1)) (by rw [hc2])) b_nil) ?_
      have hm : max qs.length qb.length < 4 := by omega
      have hloop := forM_all (bf := fun ρ o => evB (lv T (n + 7)).f (lv T (n + 7)).m isiT (knT T) (foT T) (lv T (n + 7)).k (lv T (n + 7)).u b_fits_as_0 ρ o) (x := 105) (fun ρ => look ρ 1752134516 = some H ∧ look ρ 7566690 = some S ∧ look ρ 2129833996441738113907 = some k1 ∧ look ρ 1650553701 = some B ∧ look ρ 464589564653577051403123 = some k0) (goodI (okAt pf qs qb)) (.bool false) ((List.range (max qs.length qb.length)).map fun (i : Nat) => .int i)
        [(1752134516, H), (7566690, S), (2129833996441738113907, k1), (1650553701, B), (464589564653577051403123, k0)] ⟨by kernel_rfl, by kernel_rfl, by kernel_rfl, by kernel_rfl, by kernel_rfl⟩ fun d hd ρ hI => by
          refine hide fun Gg kg => ?_
          obtain ⟨i, hi, rfl⟩ := List.mem_map.mp hd
          have hi4 : i < 4 := by have := List.mem_range.mp hi; omega
          obtain ⟨l1, l2, l3, l4, l5⟩ := hI
          refine kg ?_; clear kg Gg
          have pn : ∀ q : Qm, cmpD .IsNot q.par .none = some true := fun q => by kernel_rfl
          have pi : ∀ q : Qm, cmpD .Is q.par .none = some false := fun q => by kernel_rfl
          show if okAt pf qs qb i then _ else _
          have st1 : evS (lv T (n + 7)).f (lv T (n + 7)).m isiT (knT T) (foT T) (lv T (n + 7)).k (lv T (n + 7)).u (.asg 418263299685 (.call 8097879367761224052 [.var 1650553701, .var 105])) (put ρ 105 (.int i)) none = some (.next (put (put ρ 105 (.int i)) 418263299685 (optD Qm.par (atQ qb i))) none) :=
            s_asg (e_call (e_es1 (e_var (lk_ne (by rfl) l4)) (e_es1 (e_var lk_eq) e_nil)) (P2 i hi4))
          have cond := e_cmp (op := .IsNot) (Γ := (lv T (n + 7)).f) (Γm := (lv T (n + 7)).m) (isi := isiT) (kn := knT T) (fo := foT T) (e_var (lk_eq (ρ := put ρ 105 (.int i)) (n := 418263299685) (d := optD Qm.par (atQ qb i)))) e_none (isNot_none pn)
          cases hA : atQ qb i with
          | none =>
            have ok : okAt pf qs qb i = true := by unfold okAt; rw [hA]
            rw [hA] at st1 cond
            rw [ok, if_pos rfl]
            exact ⟨_, .inl (b_next st1 (b_next (s_iteF cond b_nil) b_nil)), lk_ne (by rfl) (lk_ne (by rfl) l1), lk_ne (by rfl) (lk_ne (by rfl) l2), lk_ne (by rfl) (lk_ne (by rfl) l3), lk_ne (by rfl) (lk_ne (by rfl) l4), lk_ne (by rfl) (lk_ne (by rfl) l5)⟩
          | some a =>
            rw [hA] at st1 cond
            have st2 : evS (lv T (n + 7)).f (lv T (n + 7)).m isiT (knT T) (foT T) (lv T (n + 7)).k (lv T (n + 7)).u (.asg 7305070 (.call 8097879367761224052 [.var 7566690, .var 105])) (put (put ρ 105 (.int i)) 418263299685 (optD Qm.par (some a))) none = some (.next (put (put (put ρ 105 (.int i)) 418263299685 (optD Qm.par (some a))) 7305070 (optD Qm.par (atQ qs i))) none) :=
              s_asg (e_call (e_es1 (e_var (lk_ne (by rfl) (lk_ne (by rfl) l2))) (e_es1 (e_var (lk_ne (by rfl) lk_eq)) e_nil)) (P1 i hi4))
            have c1 := e_cmp (op := .Is) (Γ := (lv T (n + 7)).f) (Γm := (lv T (n + 7)).m) (isi := isiT) (kn := knT T) (fo := foT T) (e_var (lk_eq (ρ := put (put ρ 105 (.int i)) 418263299685 (optD Qm.par (some a))) (n := 7305070) (d := optD Qm.par (atQ qs i)))) e_none (is_none pi)
            cases hO : atQ qs i with
            | none =>
              have ok : okAt pf qs qb i = false := by unfold okAt; rw [hA, hO]
              rw [hO] at st2 c1
              rw [ok, if_neg Bool.false_ne_true]
              exact b_next st1 (b_ret (s_iteT cond (b_next st2 (b_ret (s_iteT (e_or2 (c := true) c1 (fun h => by cases h)) (b_ret (s_ret e_bool)))))))
            | some o =>
              have ok : okAt pf qs qb i = pf o a := by unfold okAt; rw [hA, hO]
              rw [hO] at st2 c1
              have c2 := e_not (e_call (Γ := (lv T (n + 7)).f) (Γm := (lv T (n + 7)).m) (isi := isiT) (kn := knT T) (fo := foT T) (e_es1 (e_var (lk_ne (by rfl) (lk_ne (by rfl) (lk_ne (by rfl) l1)))) (e_es1 (e_var (lk_eq (ρ := put (put ρ 105 (.int i)) 418263299685 (optD Qm.par (some a))) (n := 7305070) (d := optD Qm.par (some o)))) (e_es1 (e_var (lk_ne (by rfl) (lk_ne (by rfl) (lk_ne (by rfl) l3)))) (e_es1 (e_var (lk_ne (by rfl) lk_eq)) (e_es1 (e_var (lk_ne (by rfl) (lk_ne (by rfl) (lk_ne (by rfl) l5)))) e_nil))))) (hpf n o (atQ_mem hO) a (atQ_mem hA)))
              have c3 := e_or2 c1 fun _ => c2
              rw [ok]
              cases hp : pf o a with
              | true =>
                rw [hp] at c3
                rw [if_pos rfl]
                refine ⟨_, .inl (b_next st1 (b_next (s_iteT cond (b_next st2 (b_next (s_iteF c3 b_nil) b_nil))) b_nil)), ?_, ?_, ?_, ?_, ?_⟩
                · exact lk_ne (by rfl) (lk_ne (by rfl) (lk_ne (by rfl) l1))
                · exact lk_ne (by rfl) (lk_ne (by rfl) (lk_ne (by rfl) l2))
                · exact lk_ne (by rfl) (lk_ne (by rfl) (lk_ne (by rfl) l3))
                · exact lk_ne (by rfl) (lk_ne (by rfl) (lk_ne (by rfl) l4))
                · exact lk_ne (by rfl) (lk_ne (by rfl) (lk_ne (by rfl) l5))
              | false =>
                rw [hp] at c3
                rw [if_neg Bool.false_ne_true]
                exact b_next st1 (b_ret (s_iteT cond (b_next st2 (b_ret (s_iteT c3 (b_ret (s_ret e_bool)))))))
      rw [all_range] at hloop
      have hitems : itemsD (.rng (max qs.length qb.length)) = some ((List.range (max qs.length qb.length)).map fun (i : Nat) => .int i) := by
        simp only [itemsD]
        rw [if_pos (Nat.ble_eq_true_of_le (by omega))]
      have hlen : Nat.ble ((List.range (max qs.length qb.length)).map fun (i : Nat) => D.int i).length 1000 = true := Nat.ble_eq_true_of_le (by simp; omega)
      cases hr : (List.range (max qs.length qb.length)).all (okAt pf qs qb) with
      | false =>
        rw [hr] at hloop
        have : fitB pf rt qs qb rf rf' = false := by unfold fitB; rw [hc1, hc2, hr]; rfl
        rw [this]
        exact b_ret (s_for HR hitems hlen hloop)
      | true =>
        rw [hr] at hloop
        refine hide fun Gg kg => ?_
        obtain ⟨ρ', h1, l1, l2, l3, l4, l5⟩ := hloop
        refine kg ?_; clear kg Gg
        have : fitB pf rt qs qb rf rf' = rt := by unfold fitB; rw [hc1, hc2, hr]; simp
        rw [this]
        have aS : attrD (foT T) S 1954115685 = some ret := by
          rw [← hS]
          have e : attrD (foT T) (funcQ nm (qs.map Qm.par) ret rf st vi fl c) 1954115685 = if notTop ret then some ret else none := by kernel_rfl
          rw [e, nr]; rfl
        have aB : attrD (foT T) B 1954115685 = some ret' := by
          rw [← hB]
          have e : attrD (foT T) (funcQ nm' (qb.map Qm.par) ret' rf' st' vi' fl' c') 1954115685 = if notTop ret' then some ret' else none := by kernel_rfl
          rw [e, nr']; rfl
        exact b_next (s_for HR hitems hlen h1) (b_ret (s_ret (e_call (e_es1 (e_var l1) (e_es1 (e_attr (e_var l2) aS) (e_es1 (e_var l3) (e_es1 (e_attr (e_var l4) aB) (e_es1 (e_var l5) e_nil))))) (hrt n))))
end
end Mine
end

section
open PySem PySem.W PyProof.Rows PySem.Calls
set_option maxRecDepth 100000
namespace Mine

section
variable {Γ : Nat → List D → Option D} {Γm : Nat → D → List D → Option D} {isi : D → Nat → Option Bool} {kn : Nat → Bool} {fo : Nat → Nat → Bool} {Γk : Nat → List D → Option (List (Nat × D))} {Γu : Nat → Nat → List (Nat × D) → List D → Option (List (Nat × D))}
variable {p : PS} {r : List PS} {ρ ρ₁ : List (Nat × D)} {o o₁ : Option (Nat × D)} {d x y z : D} {b c a : Bool} {e e1 e2 e3 t : PE} {l : List PE} {ds : List D}
theorem e_and3 (h1 : evE Γ Γm isi kn fo e1 ρ = some (.bool a)) (h2 : a = true → evE Γ Γm isi kn fo e2 ρ = some (.bool b)) (h3 : a = true → b = true → evE Γ Γm isi kn fo e3 ρ = some (.bool c)) : evE Γ Γm isi kn fo (.and [e1, e2, e3]) ρ = some (.bool (a && (b && c))) :=
  jM (and_c h1 fun q => and_c (h2 q) fun q' => and_1 (h3 q q'))
theorem e_or3 (h1 : evE Γ Γm isi kn fo e1 ρ = some (.bool a)) (h2 : a = false → evE Γ Γm isi kn fo e2 ρ = some (.bool b)) (h3 : a = false → b = false → evE Γ Γm isi kn fo e3 ρ = some (.bool c)) : evE Γ Γm isi kn fo (.or [e1, e2, e3]) ρ = some (.bool (a || (b || c))) :=
  jM (or_c h1 fun q => or_c (h2 q) fun q' => or_1 (h3 q q'))
theorem jT2 {o : Option D} {f : D → D → Option Out} {z : Option Out} (h : o = some (.tup [x, y])) (h2 : f x y = z) : (match (generalizing := false) o with | some (.tup [a, b]) => f a b | _ => none) = z := by subst h; exact h2
theorem e_tup (h : evEs Γ Γm isi kn fo l ρ = some ds) (hl : Nat.ble ds.length 100 = true) : evE Γ Γm isi kn fo (.tup l) ρ = some (.tup ds) := jL h (jB hl rfl)
theorem s_asg2 {n m : Nat} (h : evE Γ Γm isi kn fo e ρ = some (.tup [x, y])) (hne : Nat.beq n m = false) : evS Γ Γm isi kn fo Γk Γu (.asg2 n m e) ρ none = some (.next (put (put ρ n x) m y) none) := jB (show (freeOf none n && freeOf none m && !(Nat.beq n m)) = true from congrArg Bool.not hne) (jT2 (evP_e h) rfl)
theorem s_cont : evS Γ Γm isi kn fo Γk Γu .cont ρ o = some (.cont ρ o) := rfl
theorem b_cont (h : evS Γ Γm isi kn fo Γk Γu p ρ o = some (.cont ρ₁ o₁)) : evB Γ Γm isi kn fo Γk Γu (p :: r) ρ o = some (.cont ρ₁ o₁) := jCt h
end

noncomputable def okL (pf : Qm → Qm → Bool) (qs qb : List Qm) (i : Nat) : Bool := match atQ qb i with
  | none => true
  | some a => if decide (i ≥ qs.length) && decide (i ≥ qb.length) then true else match atQ qs i with
    | none => false
    | some o => pf o a
noncomputable def fitL (pf : Qm → Qm → Bool) (rt : Bool) (qs qb : List Qm) (srf brf : Bool) : Bool := !(decide (reqQ qs > reqQ qb) || (brf && !srf)) && !(isVarQ qb && !isVarQ qs) && (List.range 4).all (okL pf qs qb) && rt
theorem okL_lt {pf : Qm → Qm → Bool} {qs qb : List Qm} {i : Nat} (h : i < max qs.length qb.length) : okL pf qs qb i = okAt pf qs qb i := by
  unfold okL okAt
  cases atQ qb i with
  | none => rfl
  | some a =>
    have : (decide (i ≥ qs.length) && decide (i ≥ qb.length)) = false := by
      rw [Bool.and_eq_false_iff, decide_eq_false_iff_not, decide_eq_false_iff_not]; omega
    dsimp only
    rw [this]; rfl
theorem okL_ge {pf : Qm → Qm → Bool} {qs qb : List Qm} {i : Nat} (h : max qs.length qb.length ≤ i) : okL pf qs qb i = true := by
  unfold okL
  cases atQ qb i with
  | none => rfl
  | some a =>
    have : (decide (i ≥ qs.length) && decide (i ≥ qb.length)) = true := by
      rw [Bool.and_eq_true, decide_eq_true_eq, decide_eq_true_eq]; omega
    dsimp only
    rw [this]; rfl
theorem fit_same {pf : Qm → Qm → Bool} {rt a b : Bool} {qs qb : List Qm} (hs : qs.length ≤ 3) (hb : qb.length ≤ 3) : fitL pf rt qs qb a b = fitB pf rt qs qb a b := by
  have e : (List.range 4).all (okL pf qs qb) = (List.range (max qs.length qb.length)).all (okAt pf qs qb) := by
    rw [Bool.eq_iff_iff, List.all_eq_true, List.all_eq_true]
    constructor
    · intro h i hi
      rw [← okL_lt (List.mem_range.mp hi)]
      exact h i (List.mem_range.mpr (by have := List.mem_range.mp hi; omega))
    · intro h i hi
      by_cases q : i < max qs.length qb.length
      · rw [okL_lt q]; exact h i (List.mem_range.mpr q)
      · exact okL_ge (by omega)
  unfold fitL fitB
  rw [e]

theorem ev_cond2 {nm nm' : Str} {ret ret' : D} {rf rf' : Bool} {qs qb : List Qm} (hs : qs.length ≤ 3) (hb : qb.length ≤ 3) (ls : ∀ q ∈ qs, layD q.node) (lb : ∀ q ∈ qb, layD q.node) (n : Nat) :
    evE (lv T (n + 1)).f (lv T (n + 1)).m isiT (knT T) (foT T) (.and [.cmp .NotEq (.item (.var 1650553701) (.int 2)) (.tup []), .item (.item (.item (.var 1650553701) (.int 2)) (.neg (.int 1))) (.int 5), .or [.cmp .Eq (.item (.var 7566690) (.int 2)) (.tup []), .not (.item (.item (.item (.var 7566690) (.int 2)) (.neg (.int 1))) (.int 5))]]) [(7566690, methQ nm (qs.map Qm.node) ret rf), (1650553701, methQ nm' (qb.map Qm.node) ret' rf')] = some (.bool (isVarQ qb && !isVarQ qs)) := by
  have eqn : ∀ (l : List Qm), (∀ q ∈ l, layD q.node) → l ≠ [] → eqD (.tup (l.map Qm.node)) (.tup []) = some false := fun l h hne => eq_nil (fun d hd => by obtain ⟨q, hq, rfl⟩ := List.mem_map.mp hd; exact h q hq) (by simpa using hne)
  have ne1 : ∀ (l : List Qm), (∀ q ∈ l, layD q.node) → l ≠ [] → cmpD .NotEq (.tup (l.map Qm.node)) (.tup []) = some true := fun l h hne => congrArg (fun o => o.map fun x => !x) (eqn l h hne)
  have eq1 : ∀ (l : List Qm), (∀ q ∈ l, layD q.node) → l ≠ [] → cmpD .Eq (.tup (l.map Qm.node)) (.tup []) = some false := fun l h hne => eqn l h hne
  have inner : evE (lv T (n + 1)).f (lv T (n + 1)).m isiT (knT T) (foT T) (.or [.cmp .Eq (.item (.var 7566690) (.int 2)) (.tup []), .not (.item (.item (.item (.var 7566690) (.int 2)) (.neg (.int 1))) (.int 5))]) [(7566690, methQ nm (qs.map Qm.node) ret rf), (1650553701, methQ nm' (qb.map Qm.node) ret' rf')] = some (.bool (!isVarQ qs)) := by
    revert ls
    apply len3 ?_ ?_ ?_ ?_ qs hs
    · intro _; kernel_rfl
    · intro q0 ls
      refine Eq.trans (e_or2 (c := !q0.v) (e_cmp (b := false) (x := .tup ([q0].map Qm.node)) (y := .tup []) (by kernel_rfl) (by kernel_rfl) (eq1 _ ls (by simp))) fun _ => by kernel_rfl) ?_
      cases hv : q0.v <;> simp [isVarQ, lastV, hv]
    · intro q0 q1 ls
      refine Eq.trans (e_or2 (c := !q1.v) (e_cmp (b := false) (x := .tup ([q0, q1].map Qm.node)) (y := .tup []) (by kernel_rfl) (by kernel_rfl) (eq1 _ ls (by simp))) fun _ => by kernel_rfl) ?_
      cases hv : q1.v <;> simp [isVarQ, lastV, hv]
    · intro q0 q1 q2 ls
      refine Eq.trans (e_or2 (c := !q2.v) (e_cmp (b := false) (x := .tup ([q0, q1, q2].map Qm.node)) (y := .tup []) (by kernel_rfl) (by kernel_rfl) (eq1 _ ls (by simp))) fun _ => by kernel_rfl) ?_
      cases hv : q2.v <;> simp [isVarQ, lastV, hv]
  clear ls hs eqn
  revert lb inner
  apply len3 ?_ ?_ ?_ ?_ qb hb
  · intro _ _; kernel_rfl
  · intro q0 lb inner
    refine Eq.trans (e_and3 (b := q0.v) (e_cmp (b := true) (x := .tup ([q0].map Qm.node)) (y := .tup []) (by kernel_rfl) (by kernel_rfl) (ne1 _ lb (by simp))) (fun _ => by kernel_rfl) fun _ _ => inner) ?_
    cases hv : q0.v <;> simp [isVarQ, lastV, hv]
  · intro q0 q1 lb inner
    refine Eq.trans (e_and3 (b := q1.v) (e_cmp (b := true) (x := .tup ([q0, q1].map Qm.node)) (y := .tup []) (by kernel_rfl) (by kernel_rfl) (ne1 _ lb (by simp))) (fun _ => by kernel_rfl) fun _ _ => inner) ?_
    cases hv : q1.v <;> simp [isVarQ, lastV, hv]
  · intro q0 q1 q2 lb inner
    refine Eq.trans (e_and3 (b := q2.v) (e_cmp (b := true) (x := .tup ([q0, q1, q2].map Qm.node)) (y := .tup []) (by kernel_rfl) (by kernel_rfl) (ne1 _ lb (by simp))) (fun _ => by kernel_rfl) fun _ _ => inner) ?_
    cases hv : q2.v <;> simp [isVarQ, lastV, hv]
end Mine
end

section
open PySem PySem.W PyProof.Rows PySem.Calls
set_option maxRecDepth 100000
namespace Mine

noncomputable def wantD (τ : D) : D := match τ with
  | .none => .tup [wMixed]
  | d => d
noncomputable def noneOrTup (d : D) : Prop := d = .none ∨ ∃ l, d = .tup l
theorem is_noneD {d : D} (h : noneOrTup d) : ∃ b, cmpD .Is d .none = some b ∧ (if b then (.tup [wMixed] : D) else d) = wantD d := by
  rcases h with rfl | ⟨l, rfl⟩
  · exact ⟨true, rfl, rfl⟩
  · exact ⟨false, rfl, rfl⟩
theorem ne_bool (a b : Bool) : cmpD .NotEq (.bool a) (.bool b) = some (a != b) := by cases a <;> cases b <;> kernel_rfl

theorem ev_law_fits {nm nm' : Str} {ret ret' : D} {rf rf' : Bool} {qs qb : List Qm} (hs : qs.length ≤ 3) (hb : qb.length ≤ 3) (oks : ∀ q ∈ qs, q.ok) (okb : ∀ q ∈ qb, q.ok) (ls : ∀ q ∈ qs, layD q.node) (lb : ∀ q ∈ qb, layD q.node)
    (hown : ∀ n, ∀ q, q ∈ qs ∨ q ∈ qb → (lv T (n + 6)).f 7560217649442404116145779601509 [q.node] = some q.τ) (ht : ∀ q ∈ qb, noneOrTup q.τ) {wi : Qm → Qm → Bool} {rt : Bool}
    (hwi : ∀ n, ∀ q ∈ qs, ∀ a ∈ qb, (lv T (n + 6)).f 1935415718257144480842717468322158 [wantD a.τ, .bool false, q.τ, .bool true] = some (.bool (wi q a))) (hrt : ∀ n, (lv T (n + 6)).f 1935415718257144480842717468322158 [ret, .bool true, ret', .bool false] = some (.bool rt)) (n : Nat) :
    (lv T (n + 7)).f 1760250341482868339827 [methQ nm (qs.map Qm.node) ret rf, methQ nm' (qb.map Qm.node) ret' rf'] = some (.bool (fitL (fun q a => (q.r == a.r) && wi q a) rt qs qb rf rf')) := by
  have R1 := ev_least (nm := nm) (ret := ret) (rf := rf) hs oks (n + 4)
  have R2 := ev_least (nm := nm') (ret := ret') (rf := rf') hb okb (n + 4)
  have P1 : ∀ i : Nat, i < 4 → (lv T (n + 6)).f 26859288657879412 [methQ nm (qs.map Qm.node) ret rf, .int i] = some (optD Qm.node (atQ qs i)) := fun i hi => ev_law_at hs ls hi (n + 4)
  have P2 : ∀ i : Nat, i < 4 → (lv T (n + 6)).f 26859288657879412 [methQ nm' (qb.map Qm.node) ret' rf', .int i] = some (optD Qm.node (atQ qb i)) := fun i hi => ev_law_at hb lb hi (n + 4)
  have C2 := ev_cond2 (nm := nm) (nm' := nm') (ret := ret) (ret' := ret') (rf := rf) (rf' := rf') hs hb ls lb (n + 5)
  have L1 : itemD (methQ nm (qs.map Qm.node) ret rf) (.int 2) = some (.tup (qs.map Qm.node)) := by kernel_rfl
  have L2 : itemD (methQ nm' (qb.map Qm.node) ret' rf') (.int 2) = some (.tup (qb.map Qm.node)) := by kernel_rfl
  have N1 : ∀ l : List Qm, l.length ≤ 3 → (lv T (n + 6)).f 7103854 [.tup (l.map Qm.node)] = some (.int l.length) := fun l hl => by
    apply len3 ?_ ?_ ?_ ?_ l hl
    · kernel_rfl
    · intro _; kernel_rfl
    · intro _ _; kernel_rfl
    · intro _ _ _; kernel_rfl
  have a5 : itemD (methQ nm (qs.map Qm.node) ret rf) (.int 5) = some (.bool rf) := by kernel_rfl
  have b5 : itemD (methQ nm' (qb.map Qm.node) ret' rf') (.int 5) = some (.bool rf') := by kernel_rfl
  have a3 : itemD (methQ nm (qs.map Qm.node) ret rf) (.int 3) = some ret := by kernel_rfl
  have b3 : itemD (methQ nm' (qb.map Qm.node) ret' rf') (.int 3) = some ret' := by kernel_rfl
  generalize hS : methQ nm (qs.map Qm.node) ret rf = S at *
  generalize hB : methQ nm' (qb.map Qm.node) ret' rf' = B at *
  generalize hpf : (fun q a : Qm => (q.r == a.r) && wi q a) = pf
  refine lvf (n := n + 6) (fn := f__law_fits) (by kernel_rfl) (ρ := [(7566690, S), (1650553701, B)]) (by kernel_rfl) ?_
  have C1 : cmpD .Gt (.int (reqQ qs)) (.int (reqQ qb)) = some (decide (reqQ qs > reqQ qb)) := c_gt _ _
  cases hc1 : (decide (reqQ qs > reqQ qb) || (rf' && !rf)) with
  | true =>
    have : fitL pf rt qs qb rf rf' = false := by unfold fitL; rw [hc1]; rfl
    rw [this]
    exact b_ret (s_iteT (Eq.trans (e_or2 (e_cmp (e_call (by kernel_rfl) R1) (e_call (by kernel_rfl) R2) C1) fun _ => e_and2 (e_item (e_var (by kernel_rfl)) e_int b5) fun _ => e_not (e_item (e_var (by kernel_rfl)) e_int a5)) (by rw [hc1])) (b_ret (s_ret e_bool)))
  | false =>
    refine b_next (s_iteF (Eq.trans (e_or2 (e_cmp (e_call (by kernel_rfl) R1) (e_call (by kernel_rfl) R2) C1) fun _ => e_and2 (e_item (e_var (by kernel_rfl)) e_int b5) fun _ => e_not (e_item (e_var (by kernel_rfl)) e_int a5)) (by rw [hc1])) b_nil) ?_
    cases hc2 : (isVarQ qb && !isVarQ qs) with
    | true =>
      have : fitL pf rt qs qb rf rf' = false := by unfold fitL; rw [hc1, hc2]; rfl
      rw [this]
      exact b_ret (s_iteT (Eq.trans C2 (by rw [hc2])) (b_ret (s_ret e_bool)))
    | false =>
      refine b_next (s_iteF (Eq.trans C2 (by rw [hc2])) b_nil) ?_
      have hloop := forM_all (bf := fun ρ o => evB (lv T (n + 6)).f (lv T (n + 6)).m isiT (knT T) (foT T) (lv T (n + 6)).k (lv T (n + 6)).u b__law_fits_0 ρ o) (x := 107) (fun ρ => look ρ 7566690 = some S ∧ look ρ 1650553701 = some B) (goodI (okL pf qs qb)) (.bool false) ((List.range 4).map fun (i : Nat) => .int i)
        [(7566690, S), (1650553701, B)] ⟨by kernel_rfl, by kernel_rfl⟩ fun d hd ρ hI => by
          obtain ⟨i, hi, rfl⟩ := List.mem_map.mp hd
          have hi4 : i < 4 := List.mem_range.mp hi
          obtain ⟨l1, l2⟩ := hI
          show if okL pf qs qb i then _ else _
          have pi : ∀ q : Qm, cmpD .Is q.node .none = some false := fun q => by kernel_rfl
          have n4 : ∀ q : Qm, itemD q.node (.int 4) = some (.bool q.r) := fun q => by kernel_rfl
          have st1 : evS (lv T (n + 6)).f (lv T (n + 6)).m isiT (knT T) (foT T) (lv T (n + 6)).k (lv T (n + 6)).u (.asg2 418263299685 7305070 (.tup [.call 26859288657879412 [.var 1650553701, .var 107], .call 26859288657879412 [.var 7566690, .var 107]])) (put ρ 107 (.int i)) none = some (.next (put (put (put ρ 107 (.int i)) 418263299685 (optD Qm.node (atQ qb i))) 7305070 (optD Qm.node (atQ qs i))) none) :=
            s_asg2 (e_tup (e_es1 (e_call (e_es1 (e_var (lk_ne (by rfl) l2)) (e_es1 (e_var lk_eq) e_nil)) (P2 i hi4)) (e_es1 (e_call (e_es1 (e_var (lk_ne (by rfl) l1)) (e_es1 (e_var lk_eq) e_nil)) (P1 i hi4)) e_nil)) (by rfl)) (by rfl)
          have cA : ∀ (x y : D), look (put (put (put ρ 107 (.int i)) 418263299685 x) 7305070 y) 418263299685 = some x := fun x y => lk_ne (by rfl) lk_eq
          have cO : ∀ (x y : D), look (put (put (put ρ 107 (.int i)) 418263299685 x) 7305070 y) 7305070 = some y := fun x y => lk_eq
          have cS : ∀ (x y : D), look (put (put (put ρ 107 (.int i)) 418263299685 x) 7305070 y) 7566690 = some S := fun x y => lk_ne (by rfl) (lk_ne (by rfl) (lk_ne (by rfl) l1))
          have cB : ∀ (x y : D), look (put (put (put ρ 107 (.int i)) 418263299685 x) 7305070 y) 1650553701 = some B := fun x y => lk_ne (by rfl) (lk_ne (by rfl) (lk_ne (by rfl) l2))
          have cI : ∀ (x y : D), look (put (put (put ρ 107 (.int i)) 418263299685 x) 7305070 y) 107 = some (.int i) := fun x y => lk_ne (by rfl) (lk_ne (by rfl) lk_eq)
          generalize hρ3 : (fun x y : D => put (put (put ρ 107 (.int i)) 418263299685 x) 7305070 y) = ρ3 at *
          have e3 : ∀ x y, put (put (put ρ 107 (.int i)) 418263299685 x) 7305070 y = ρ3 x y := fun x y => by rw [← hρ3]
          simp only [e3] at st1 cA cO cS cB cI
          have ge : ∀ l : List Qm, cmpD .GtE (.int i) (.int l.length) = some (decide (i ≥ l.length)) := fun l => c_ge _ _
          have cond := e_or2 (e_cmp (op := .Is) (Γ := (lv T (n + 6)).f) (Γm := (lv T (n + 6)).m) (isi := isiT) (kn := knT T) (fo := foT T) (e_var (cA (optD Qm.node (atQ qb i)) (optD Qm.node (atQ qs i)))) e_none (is_none pi))
            (fun _ => e_and2 (e_cmp (op := .GtE) (e_var (cI _ _)) (e_call (f := 7103854) (e_es1 (e_item (e_var (cS _ _)) e_int L1) e_nil) (N1 qs hs)) (ge qs)) fun _ => e_cmp (op := .GtE) (e_var (cI _ _)) (e_call (f := 7103854) (e_es1 (e_item (e_var (cB _ _)) e_int L2) e_nil) (N1 qb hb)) (ge qb))
          have inv3 : ∀ x y, look (ρ3 x y) 7566690 = some S ∧ look (ρ3 x y) 1650553701 = some B := fun x y => ⟨cS x y, cB x y⟩
          cases hA : atQ qb i with
          | none =>
            have ok : okL pf qs qb i = true := by unfold okL; rw [hA]
            rw [hA] at st1 cond
            rw [ok, if_pos rfl]
            exact ⟨_, .inr (b_next st1 (b_cont (s_iteT cond (b_cont s_cont)))), inv3 _ _⟩
          | some a =>
            rw [hA] at st1 cond
            cases hg : (decide (i ≥ qs.length) && decide (i ≥ qb.length)) with
            | true =>
              have ok : okL pf qs qb i = true := by unfold okL; rw [hA]; dsimp only; rw [hg]; rfl
              rw [hg] at cond
              rw [ok, if_pos rfl]
              exact ⟨_, .inr (b_next st1 (b_cont (s_iteT cond (b_cont s_cont)))), inv3 _ _⟩
            | false =>
              rw [hg] at cond
              have hma := atQ_mem hA
              have st2 : evS (lv T (n + 6)).f (lv T (n + 6)).m isiT (knT T) (foT T) (lv T (n + 6)).k (lv T (n + 6)).u (.asg 131260348654948 (.call 7560217649442404116145779601509 [.var 418263299685])) (ρ3 (optD Qm.node (some a)) (optD Qm.node (atQ qs i))) none = some (.next (put (ρ3 (optD Qm.node (some a)) (optD Qm.node (atQ qs i))) 131260348654948 a.τ) none) :=
                s_asg (e_call (e_es1 (e_var (cA _ _)) e_nil) (hown n a (.inr hma)))
              have c1 := e_cmp (op := .Is) (Γ := (lv T (n + 6)).f) (Γm := (lv T (n + 6)).m) (isi := isiT) (kn := knT T) (fo := foT T) (e_var (lk_ne (n := 131260348654948) (d := a.τ) (m := 7305070) (by rfl) (cO (optD Qm.node (some a)) (optD Qm.node (atQ qs i))))) e_none (is_none pi)
              cases hO : atQ qs i with
              | none =>
                have ok : okL pf qs qb i = false := by unfold okL; rw [hA, hO]; dsimp only; rw [hg]; rfl
                rw [hO] at st1 st2 c1 cond
                rw [ok, if_neg Bool.false_ne_true]
                exact b_next st1 (b_next (s_iteF cond b_nil) (b_next st2 (b_ret (s_iteT (e_or3 (b := true) (c := true) c1 (fun h => by cases h) (fun h => by cases h)) (b_ret (s_ret e_bool))))))
              | some o =>
                have ok : okL pf qs qb i = pf o a := by unfold okL; rw [hA, hO]; dsimp only; rw [hg]; rfl
                rw [hO] at st1 st2 c1 cond
                have hmo := atQ_mem hO
                obtain ⟨bw, w1, w2⟩ := is_noneD (ht a hma)
                have cw := e_ite (Γ := (lv T (n + 6)).f) (Γm := (lv T (n + 6)).m) (isi := isiT) (kn := knT T) (fo := foT T) (e1 := .tup [.str ⟨#[109, 105, 120, 101, 100]⟩]) (e3 := .var 131260348654948) (x := .tup [wMixed]) (y := a.τ) (e_cmp (op := .Is) (e_var (lk_eq (ρ := ρ3 (optD Qm.node (some a)) (optD Qm.node (some o))) (n := 131260348654948) (d := a.τ))) e_none w1) (fun _ => by kernel_rfl) (fun _ => e_var lk_eq)
                rw [w2] at cw
                have kO : look (put (ρ3 (optD Qm.node (some a)) (optD Qm.node (some o))) 131260348654948 a.τ) 7305070 = some o.node := lk_ne (by rfl) (cO _ _)
                have kA : look (put (ρ3 (optD Qm.node (some a)) (optD Qm.node (some o))) 131260348654948 a.τ) 418263299685 = some a.node := lk_ne (by rfl) (cA _ _)
                have c2 := e_cmp (op := .NotEq) (Γ := (lv T (n + 6)).f) (Γm := (lv T (n + 6)).m) (isi := isiT) (kn := knT T) (fo := foT T) (e_item (e_var kO) e_int (n4 o)) (e_item (e_var kA) e_int (n4 a)) (ne_bool o.r a.r)
                have c3 := e_not (e_call (e_es1 cw (e_es1 e_bool (e_es1 (e_call (f := 7560217649442404116145779601509) (e_es1 (e_var kO) e_nil) (hown n o (.inl hmo))) (e_es1 e_bool e_nil)))) (hwi n o hmo a hma))
                have c4 := e_or3 c1 (fun _ => c2) (fun _ _ => c3)
                have hval : (false || ((o.r != a.r) || !wi o a)) = !pf o a := by
                  rw [← hpf]
                  show (false || ((o.r != a.r) || !wi o a)) = !((o.r == a.r) && wi o a)
                  cases o.r <;> cases a.r <;> cases wi o a <;> rfl
                have c5 := c4.trans (congrArg (fun b => some (D.bool b)) hval)
                rw [ok]
                cases hp : pf o a with
                | true =>
                  rw [hp] at c5
                  rw [if_pos rfl]
                  refine ⟨_, .inl (b_next st1 (b_next (s_iteF cond b_nil) (b_next st2 (b_next (s_iteF c5 b_nil) b_nil)))), lk_ne (by rfl) (cS _ _), lk_ne (by rfl) (cB _ _)⟩
                | false =>
                  rw [hp] at c5
                  rw [if_neg Bool.false_ne_true]
                  exact b_next st1 (b_next (s_iteF cond b_nil) (b_next st2 (b_ret (s_iteT c5 (b_ret (s_ret e_bool))))))
      rw [all_range] at hloop
      have HR : evE (lv T (n + 6)).f (lv T (n + 6)).m isiT (knT T) (foT T) (.call 491260897125 [.int 4]) [(7566690, S), (1650553701, B)] = some (.rng 4) := by kernel_rfl
      have hitems : itemsD (.rng 4) = some ((List.range 4).map fun (i : Nat) => .int i) := by rfl
      cases hr : (List.range 4).all (okL pf qs qb) with
      | false =>
        rw [hr] at hloop
        have : fitL pf rt qs qb rf rf' = false := by unfold fitL; rw [hc1, hc2, hr]; rfl
        rw [this]
        exact b_ret (s_for HR hitems (by rfl) hloop)
      | true =>
        rw [hr] at hloop
        obtain ⟨ρ', h1, l1, l2⟩ := hloop
        have : fitL pf rt qs qb rf rf' = rt := by unfold fitL; rw [hc1, hc2, hr]; simp
        rw [this]
        exact b_next (s_for HR hitems (by rfl) h1) (b_ret (s_ret (e_call (e_es1 (e_item (e_var l1) e_int a3) (e_es1 e_bool (e_es1 (e_item (e_var l2) e_int b3) (e_es1 e_bool e_nil)))) (hrt n))))
end Mine
end

section
open PySem PySem.W PyProof.Rows PySem.Calls
set_option maxRecDepth 100000
namespace Mine

noncomputable def Pm.q (p : Pm) : Qm := ⟨p.nm, tyD p.t, eT p.t p.d p.v, dfP p.d p.v, p.r, p.v⟩
/-- the types that stand at parameters -/
noncomputable def eTs : List D := [tyD 0, tyD 1, tyD 2, tyD 3, tyD 4, tyD 5, tyD 6, tyD 7, tyD 8, tyD 9, tyD 10, tyD 11, plusNull (tyD 1), plusNull (tyD 2), plusNull (tyD 3), plusNull (tyD 5), plusNull (tyD 6), plusNull (tyD 8), plusNull (tyD 9), plusNull (tyD 10), plusNull (tyD 11)]
noncomputable def tE (i : Nat) : D := (eTs[i]?).getD .none
noncomputable def clsP0 : D := .inst nKlass kfsP0
noncomputable def clsP1 : D := .inst nKlass (put kfsP1 nPar clsP0)
noncomputable def hostT (al : Bool) : D := hostOf pLaw names3 lowS kfsS al
noncomputable def boolOf : Option D → Option Bool
  | some (.bool b) => some b
  | _ => none
/-- within, as the law's own table says -/
noncomputable def wT (i j : Nat) : Option Bool := boolOf ((lv T 9).f 1935415718257144480842717468322158 [wantD (tE i), .bool false, tE j, .bool true])
noncomputable def wR (i j : Nat) : Option Bool := boolOf ((lv T 9).f 1935415718257144480842717468322158 [tyD i, .bool true, tyD j, .bool false])
noncomputable def same? : Option D → Option Bool → Bool
  | some (.bool b), some c => b == c
  | _, _ => false
theorem same_of {x : Option D} {y : Option Bool} (h : same? x y = true) : ∃ b, x = some (.bool b) ∧ y = some b := by
  unfold same? at h
  split at h
  · exact ⟨_, rfl, by rw [beq_iff_eq.mp h]⟩
  · cases h
theorem tabS (n : Nat) : ((List.range 21).all fun i => (List.range 21).all fun j => same? ((lv T (n + 6)).f 497976734239910992113765 [hostT false, wantD (tE i), clsP0, tE j, clsP1]) (wT i j)) = true := by kernel_rfl
theorem tabS' (n : Nat) : ((List.range 21).all fun i => (List.range 21).all fun j => same? ((lv T (n + 6)).f 497976734239910992113765 [hostT true, wantD (tE i), clsP0, tE j, clsP1]) (wT i j)) = true := by kernel_rfl
theorem tabR (n : Nat) : ((List.range 14).all fun i => (List.range 14).all fun j => same? ((lv T (n + 6)).f 497976734239910992113765 [hostT false, tyD i, clsP1, tyD j, clsP0]) (wR i j)) = true := by kernel_rfl
theorem tabR' (n : Nat) : ((List.range 14).all fun i => (List.range 14).all fun j => same? ((lv T (n + 6)).f 497976734239910992113765 [hostT true, tyD i, clsP1, tyD j, clsP0]) (wR i j)) = true := by kernel_rfl
theorem tabW (n : Nat) : ((List.range 21).all fun i => (List.range 21).all fun j => same? ((lv T (n + 4)).f 1935415718257144480842717468322158 [wantD (tE i), .bool false, tE j, .bool true]) (wT i j)) = true := by kernel_rfl
theorem tabV (n : Nat) : ((List.range 14).all fun i => (List.range 14).all fun j => same? ((lv T (n + 4)).f 1935415718257144480842717468322158 [tyD i, .bool true, tyD j, .bool false]) (wR i j)) = true := by kernel_rfl
end Mine
end

section
open PySem PySem.W PyProof.Rows PySem.Calls
set_option maxRecDepth 100000
namespace Mine

theorem noneOrTup.notTop {d : D} (h : noneOrTup d) : notTop d = true := by rcases h with rfl | ⟨l, rfl⟩ <;> rfl
theorem eq_bool (a b : Bool) : cmpD .Eq (.bool a) (.bool b) = some (a == b) := by cases a <;> cases b <;> kernel_rfl
theorem ev_param_fits {H k0 k1 : D} {q a : Qm} {b : Bool} (hq : noneOrTup q.τ) (ha : noneOrTup a.τ) (n : Nat) (h : (lv T (n + 6)).f 497976734239910992113765 [H, wantD a.τ, k0, q.τ, k1] = some (.bool b)) :
    (lv T (n + 7)).f 530702622245599662666867 [H, q.par, k1, a.par, k0] = some (.bool ((q.r == a.r) && b)) := by
  have qt : attrD (foT T) q.par 1954115685 = some q.τ := by
    have e : attrD (foT T) q.par 1954115685 = if notTop q.τ then some q.τ else none := by kernel_rfl
    rw [e, hq.notTop]; rfl
  have at_ : attrD (foT T) a.par 1954115685 = some a.τ := by
    have e : attrD (foT T) a.par 1954115685 = if notTop a.τ then some a.τ else none := by kernel_rfl
    rw [e, ha.notTop]; rfl
  have qr : attrD (foT T) q.par 115944243488102 = some (.bool q.r) := by kernel_rfl
  have ar : attrD (foT T) a.par 115944243488102 = some (.bool a.r) := by kernel_rfl
  obtain ⟨bw, w1, w2⟩ := is_noneD ha
  refine lvf (n := n + 6) (fn := f_param_fits) (by kernel_rfl) (ρ := [(1752134516, H), (7566690, q.par), (2129833996441738113907, k1), (1650553701, a.par), (464589564653577051403123, k0)]) (by kernel_rfl) ?_
  refine b_next (s_asg (Eq.trans (e_ite (x := .tup [wMixed]) (y := a.τ) (e_cmp (e_attr (e_var (by kernel_rfl)) at_) e_none w1) (fun _ => by kernel_rfl) (fun _ => e_attr (e_var (by kernel_rfl)) at_)) (congrArg some w2))) (b_ret (s_ret ?_))
  exact e_and2 (e_cmp (e_attr (e_var (by kernel_rfl)) qr) (e_attr (e_var (by kernel_rfl)) ar) (eq_bool q.r a.r)) fun _ => e_call (e_es1 (e_var (by kernel_rfl)) (e_es1 (e_var (by kernel_rfl)) (e_es1 (e_var (by kernel_rfl)) (e_es1 (e_attr (e_var (by kernel_rfl)) qt) (e_es1 (e_var (by kernel_rfl)) e_nil))))) h
end Mine
end

section
open PySem PySem.W PyProof.Rows PySem.Calls
set_option maxRecDepth 100000
namespace Mine

/-- the place of a parameter's type in the table -/
noncomputable def eI (t d : Nat) (v : Bool) : Nat := if Nat.beq d 2 && !v && !(Nat.beq t 4) && !(Nat.beq t 7) then (([0, 12, 13, 14, 4, 15, 16, 7, 17, 18, 19, 20] : List Nat)[t]?).getD 0 else t
theorem eT_tE {t d : Nat} (v : Bool) (h1 : t < 12) (h2 : d < 10) : eT t d v = tE (eI t d v) ∧ eI t d v < 21 :=
  ⟨tab3 (f := eT) (g := fun t d v => tE (eI t d v)) (n := 12) (m := 10) (by kernel_rfl) h1 h2 v, Nat.le_of_ble_eq_true (tab3 (f := fun t d v => Nat.ble (eI t d v + 1) 21) (g := fun _ _ _ => true) (n := 12) (m := 10) (by kernel_rfl) h1 h2 v)⟩
noncomputable def nOT : D → Bool
  | .none => true
  | .tup _ => true
  | _ => false
theorem nOT_of : ∀ {d : D}, nOT d = true → noneOrTup d
  | .none, _ => .inl rfl
  | .tup l, _ => .inr ⟨l, rfl⟩
theorem eT_tup {t d : Nat} (v : Bool) (h1 : t < 12) (h2 : d < 10) : noneOrTup (eT t d v) := nOT_of (tab3 (f := fun t d v => nOT (eT t d v)) (g := fun _ _ _ => true) (n := 12) (m := 10) (by kernel_rfl) h1 h2 v)
theorem dfP_ok {d : Nat} (v : Bool) (h2 : d < 10) : dfP d v = .none ∨ ∃ l, dfP d v = .tup l := nOT_of (tab3 (f := fun _ d v => nOT (dfP d v)) (g := fun _ _ _ => true) (n := 1) (m := 10) (by kernel_rfl) (Nat.zero_lt_one) h2 v)
theorem Pm.q_ok {p : Pm} (h : p.ok) : p.q.ok := dfP_ok p.v h.2
theorem lay_node {p : Pm} (h : p.ok) (hn : PyData.strOk p.nm = true) : layD p.q.node := by
  have e := tab3 (f := fun t d v => (toPy (Pm.q ⟨p.nm, t, d, p.r, v⟩).node).map fun x => (x.canLay0, Nat.ble x.depth 20)) (g := fun _ _ _ => some (PyData.strOk p.nm && true, true)) (n := 12) (m := 10) (by kernel_rfl) h.1 h.2 p.v
  obtain ⟨x, h1, h2⟩ := Option.map_eq_some_iff.mp e
  exact ⟨x, h1, (congrArg (·.1) h2).trans (by rw [hn]; rfl), Nat.le_of_ble_eq_true (congrArg (·.2) h2)⟩
theorem ev_own {p : Pm} (h : p.ok) (n : Nat) : (lv T (n + 1)).f 7560217649442404116145779601509 [p.q.node] = some p.q.τ :=
  tab3 (f := fun t d v => (lv T (n + 1)).f 7560217649442404116145779601509 [(Pm.q ⟨p.nm, t, d, p.r, v⟩).node]) (g := fun t d v => some (Pm.q ⟨p.nm, t, d, p.r, v⟩).τ) (n := 12) (m := 10) (by kernel_rfl) h.1 h.2 p.v

/-- a method -/
structure Md where
  nm : Str
  ps : List Pm
  t : Nat
  rf : Bool
  vi : Nat
  st : Bool
  ab : Bool
  fi : Bool
noncomputable def Md.qs (m : Md) : List Qm := m.ps.map Pm.q
noncomputable def visS (v : Nat) : Str := match v with
  | 0 => ⟨#[112, 117, 98, 108, 105, 99]⟩
  | 1 => ⟨#[112, 114, 111, 116, 101, 99, 116, 101, 100]⟩
  | _ => ⟨#[112, 114, 105, 118, 97, 116, 101]⟩
noncomputable def sStatic : Str := ⟨#[115, 116, 97, 116, 105, 99]⟩
noncomputable def sAbstract : Str := ⟨#[97, 98, 115, 116, 114, 97, 99, 116]⟩
noncomputable def sFinal : Str := ⟨#[102, 105, 110, 97, 108]⟩
noncomputable def flD (ab fi : Bool) : D := .tup ((if ab then [.str sAbstract] else []) ++ (if fi then [.str sFinal] else []))
noncomputable def flagsD (v : Nat) (st ab fi : Bool) : D := .tup (.str (visS v) :: ((if st then [.str sStatic] else []) ++ ((if ab then [.str sAbstract] else []) ++ (if fi then [.str sFinal] else []))))
noncomputable def Md.func (m : Md) (k : D) : D := funcQ m.nm (m.qs.map Qm.par) (tyD m.t) m.rf m.st (visS m.vi) (flD m.ab m.fi) k
noncomputable def Md.node (m : Md) : D := methQ m.nm (m.qs.map Qm.node) (tyD m.t) m.rf
noncomputable def Md.flags (m : Md) : D := flagsD m.vi m.st m.ab m.fi
noncomputable def nmG (s : Str) : Prop := PyData.strOk s = true ∧ s.length ≤ 1
structure Md.ok (m : Md) : Prop where
  len : m.ps.length ≤ 3
  ps : ∀ p ∈ m.ps, p.ok ∧ nmG p.nm
  t : m.t < 14
  vi : m.vi < 3
theorem Md.ok.qs {m : Md} (h : m.ok) : m.qs.length ≤ 3 ∧ (∀ q ∈ m.qs, q.ok) ∧ (∀ q ∈ m.qs, layD q.node) := by
  refine ⟨by simpa [Md.qs] using h.len, fun q hq => ?_, fun q hq => ?_⟩
  · obtain ⟨p, hp, rfl⟩ := List.mem_map.mp hq
    exact Pm.q_ok (h.ps p hp).1
  · obtain ⟨p, hp, rfl⟩ := List.mem_map.mp hq
    exact lay_node (h.ps p hp).1 (h.ps p hp).2.1
noncomputable def wQ (q a : Qm) : Bool := (boolOf ((lv T 9).f 1935415718257144480842717468322158 [wantD a.τ, .bool false, q.τ, .bool true])).getD false
noncomputable def rQ (i j : Nat) : Bool := (wR i j).getD false
noncomputable def fitP (s b : Md) : Bool := fitB (fun q a => (q.r == a.r) && wQ q a) (rQ s.t b.t) s.qs b.qs s.rf b.rf
theorem w_tab {a p : Pm} (ha : a.ok) (hp : p.ok) : wQ p.q a.q = (wT (eI a.t a.d a.v) (eI p.t p.d p.v)).getD false := by
  unfold wQ wT
  rw [← (eT_tE a.v ha.1 ha.2).1, ← (eT_tE p.v hp.1 hp.2).1]
  rfl
theorem at_all {n : Nat} {f : Nat → Nat → Bool} (h : ((List.range n).all fun i => (List.range n).all fun j => f i j) = true) {i j : Nat} (hi : i < n) (hj : j < n) : f i j = true :=
  List.all_eq_true.mp (List.all_eq_true.mp h i (List.mem_range.mpr hi)) j (List.mem_range.mpr hj)
theorem w_law {a p : Pm} (ha : a.ok) (hp : p.ok) (n : Nat) : (lv T (n + 4)).f 1935415718257144480842717468322158 [wantD a.q.τ, .bool false, p.q.τ, .bool true] = some (.bool (wQ p.q a.q)) := by
  obtain ⟨e1, l1⟩ := eT_tE a.v ha.1 ha.2
  obtain ⟨e2, l2⟩ := eT_tE p.v hp.1 hp.2
  obtain ⟨b, h1, h2⟩ := same_of (at_all (tabW n) l1 l2)
  rw [w_tab ha hp, h2]
  show (lv T (n + 4)).f 1935415718257144480842717468322158 [wantD (eT a.t a.d a.v), .bool false, eT p.t p.d p.v, .bool true] = some (.bool b)
  rw [e1, e2]; exact h1
theorem w_sub {a p : Pm} (ha : a.ok) (hp : p.ok) (al : Bool) (n : Nat) : (lv T (n + 6)).f 497976734239910992113765 [hostT al, wantD a.q.τ, clsP0, p.q.τ, clsP1] = some (.bool (wQ p.q a.q)) := by
  obtain ⟨e1, l1⟩ := eT_tE a.v ha.1 ha.2
  obtain ⟨e2, l2⟩ := eT_tE p.v hp.1 hp.2
  have : ∃ b, (lv T (n + 6)).f 497976734239910992113765 [hostT al, wantD (tE (eI a.t a.d a.v)), clsP0, tE (eI p.t p.d p.v), clsP1] = some (.bool b) ∧ wT (eI a.t a.d a.v) (eI p.t p.d p.v) = some b := by
    cases al
    · exact same_of (at_all (tabS n) l1 l2)
    · exact same_of (at_all (tabS' n) l1 l2)
  obtain ⟨b, h1, h2⟩ := this
  rw [w_tab ha hp, h2]
  show (lv T (n + 6)).f 497976734239910992113765 [hostT al, wantD (eT a.t a.d a.v), clsP0, eT p.t p.d p.v, clsP1] = some (.bool b)
  rw [e1, e2]; exact h1
theorem r_law {i j : Nat} (hi : i < 14) (hj : j < 14) (n : Nat) : (lv T (n + 4)).f 1935415718257144480842717468322158 [tyD i, .bool true, tyD j, .bool false] = some (.bool (rQ i j)) := by
  obtain ⟨b, h1, h2⟩ := same_of (at_all (tabV n) hi hj)
  unfold rQ
  rw [h2]; exact h1
theorem r_sub {i j : Nat} (hi : i < 14) (hj : j < 14) (al : Bool) (n : Nat) : (lv T (n + 6)).f 497976734239910992113765 [hostT al, tyD i, clsP1, tyD j, clsP0] = some (.bool (rQ i j)) := by
  have : ∃ b, (lv T (n + 6)).f 497976734239910992113765 [hostT al, tyD i, clsP1, tyD j, clsP0] = some (.bool b) ∧ wR i j = some b := by
    cases al
    · exact same_of (at_all (tabR n) hi hj)
    · exact same_of (at_all (tabR' n) hi hj)
  obtain ⟨b, h1, h2⟩ := this
  unfold rQ
  rw [h2]; exact h1
theorem tyD_top {i : Nat} (hi : i < 14) : notTop (tyD i) = true := tab1 (f := fun i => notTop (tyD i)) (g := fun _ => true) (n := 14) (by kernel_rfl) hi
theorem ev_fits {s b : Md} (hs : s.ok) (hb : b.ok) (al : Bool) {k k' : D} (n : Nat) : (lv T (n + 8)).f 28826396497240435 [hostT al, s.func k, clsP1, b.func k', clsP0] = some (.bool (fitP s b)) := by
  obtain ⟨s1, s2, s3⟩ := hs.qs
  obtain ⟨b1, b2, b3⟩ := hb.qs
  refine ev_fits_as s1 b1 s2 b2 (tyD_top hs.t) (tyD_top hb.t) (fun n q hq a ha => ?_) (fun n => ?_) n
  · obtain ⟨p, hp, rfl⟩ := List.mem_map.mp hq
    obtain ⟨p', hp', rfl⟩ := List.mem_map.mp ha
    have op := (hs.ps p hp).1
    have op' := (hb.ps p' hp').1
    exact ev_param_fits (eT_tup p.v op.1 op.2) (eT_tup p'.v op'.1 op'.2) n (w_sub op' op al n)
  · exact r_sub hs.t hb.t al (n + 1)
theorem ev_lfits {s b : Md} (hs : s.ok) (hb : b.ok) (n : Nat) : (lv T (n + 7)).f 1760250341482868339827 [s.node, b.node] = some (.bool (fitP s b)) := by
  obtain ⟨s1, s2, s3⟩ := hs.qs
  obtain ⟨b1, b2, b3⟩ := hb.qs
  refine Eq.trans (ev_law_fits s1 b1 s2 b2 s3 b3 (fun n q hq => ?_) (fun q hq => ?_) (wi := wQ) (rt := rQ s.t b.t) (fun n q hq a ha => ?_) (fun n => r_law hs.t hb.t (n + 2)) n) ?_
  · rcases hq with hq | hq
    · obtain ⟨p, hp, rfl⟩ := List.mem_map.mp hq
      exact ev_own (hs.ps p hp).1 (n + 5)
    · obtain ⟨p, hp, rfl⟩ := List.mem_map.mp hq
      exact ev_own (hb.ps p hp).1 (n + 5)
  · obtain ⟨p, hp, rfl⟩ := List.mem_map.mp hq
    exact eT_tup p.v (hb.ps p hp).1.1 (hb.ps p hp).1.2
  · obtain ⟨p, hp, rfl⟩ := List.mem_map.mp hq
    obtain ⟨p', hp', rfl⟩ := List.mem_map.mp ha
    exact w_law (hb.ps p' hp').1 (hs.ps p hp).1 (n + 2)
  · rw [fit_same s1 b1]; rfl
end Mine
end

section
open PySem PySem.W PyProof.Rows PySem.Calls
set_option maxRecDepth 100000
namespace Mine

section
variable {Γ : Nat → List D → Option D} {Γm : Nat → D → List D → Option D} {isi : D → Nat → Option Bool} {kn : Nat → Bool} {fo : Nat → Nat → Bool} {Γk : Nat → List D → Option (List (Nat × D))} {Γu : Nat → Nat → List (Nat × D) → List D → Option (List (Nat × D))}
variable {p : PS} {r : List PS} {ρ ρ₁ : List (Nat × D)} {o o₁ : Option (Nat × D)} {d x y z : D} {b c a : Bool} {e e1 e2 e3 t : PE} {l : List PE} {ds rs : List D}
theorem e_comp {n : Nat} {src : D} {ifs : List PE} (h1 : evE Γ Γm isi kn fo t ρ = some src) (h2 : itemsD src = some ds) (h3 : Nat.ble ds.length 1000 = true) (h4 : keepM (fun d => evTs Γ Γm isi kn fo ifs (put ρ n d)) (fun d => evE Γ Γm isi kn fo e (put ρ n d)) ds = some rs) :
    evE Γ Γm isi kn fo (.comp e n t ifs) ρ = some (.lst rs) := jD h1 (jL h2 (jB h3 (jM h4)))
theorem k_nil {t : D → Option Bool} {f : D → Option D} : keepM t f [] = some [] := rfl
theorem jCT {β : Type} {o : Option Bool} {x y z : Option β} (h : o = some true) (h2 : x = z) : (match (generalizing := false) o with | some true => x | some false => y | none => none) = z := by subst h; exact h2
theorem jCF {β : Type} {o : Option Bool} {x y z : Option β} (h : o = some false) (h2 : y = z) : (match (generalizing := false) o with | some true => x | some false => y | none => none) = z := by subst h; exact h2
theorem k_cons {t : D → Option Bool} {f : D → Option D} (ht : t d = some true) (h : f d = some x) (hr : keepM t f ds = some rs) : keepM t f (d :: ds) = some (x :: rs) := by
  exact jCT ht (jD h (jM hr))
theorem k_skip {t : D → Option Bool} {f : D → Option D} (ht : t d = some false) (hr : keepM t f ds = some rs) : keepM t f (d :: ds) = some rs := by
  exact jCF ht hr
/-- a residue of a draw -/
theorem e_res {q k : Nat} {X j : Int} (hx : evE Γ Γm isi kn fo e ρ = some (.int X)) (hk : ((k : Int) = 0) = False) (hq : ((q : Int) = 0) = False) (hb : (q : Int).natAbs < 1073741824) (h : (X.fdiv q).fmod k = j) :
    evE Γ Γm isi kn fo (.bin .Mod (.bin .FloorDiv e (.int q)) (.int k)) ρ = some (.int j) := by
  refine e_bin (e_bin hx e_int (d := .int (X.fdiv q)) ?_) e_int ?_
  · simp only [binD, ii, hq, if_false, if_pos hb]
  · simp only [binD, ii, hk, if_false, h]
theorem e_mod {k : Nat} {X j : Int} (hx : evE Γ Γm isi kn fo e ρ = some (.int X)) (hk : ((k : Int) = 0) = False) (h : X.fmod k = j) :
    evE Γ Γm isi kn fo (.bin .Mod e (.int k)) ρ = some (.int j) := by
  refine e_bin hx e_int ?_
  simp only [binD, ii, hk, if_false, h]
end
theorem res_lt (X : Int) (k : Nat) (hk : 0 < k) : ∃ j : Nat, j < k ∧ X.fmod k = j := by
  have h1 : (0 : Int) ≤ X.fmod k := Int.fmod_nonneg_of_pos _ (by omega)
  have h2 : X.fmod k < k := Int.fmod_lt_of_pos _ (by omega)
  exact ⟨(X.fmod k).toNat, by omega, by omega⟩
/-- 1 or 0 -/
noncomputable def bI (b : Bool) : Int := if b then 1 else 0
theorem res_b (X : Int) : ∃ b : Bool, X.fmod (2 : Nat) = bI b := by
  refine hide fun Gg kg => ?_
  obtain ⟨j, h, e⟩ := res_lt X 2 (by decide)
  refine kg ?_; clear kg Gg
  rcases (show j = 0 ∨ j = 1 by omega) with rfl | rfl
  · exact ⟨false, e⟩
  · exact ⟨true, e⟩
theorem bI_eq (b : Bool) : cmpD .Eq (.int (bI b)) (.int 1) = some b := by cases b <;> kernel_rfl

theorem ev_law_type {t : Nat} (h : t < 14) (n : Nat) : (lv T (n + 1)).f 1760250341483104268389 [.int t] = some (tyD t) := tab1 (f := fun t => (lv T (n + 1)).f 1760250341483104268389 [.int (Int.ofNat t)]) (g := fun t => some (tyD t)) (n := 14) (by kernel_rfl) h
theorem ev_law_default {d : Nat} (h : d < 10) (n : Nat) : (lv T (n + 1)).f 29532100193131275028415212660 [.int d] = some (dfD d) := tab1 (f := fun t => (lv T (n + 1)).f 29532100193131275028415212660 [.int (Int.ofNat t)]) (g := fun t => some (dfD t)) (n := 10) (by kernel_rfl) h
theorem ev_law_param (x : Int) : ∃ t d r w, t < 12 ∧ d < 10 ∧ ∀ (nm : Str) (last : Bool) (n : Nat), (lv T (n + 2)).f 450624087419657110315373 [.str nm, .int x, .bool last] = some (Pm.q ⟨nm, t, d, r, last && w⟩).node := by
  refine hide fun Gg kg => ?_
  obtain ⟨t, ht, e1⟩ := res_lt x 12 (by decide)
  obtain ⟨d, hd, e2⟩ := res_lt (x.fdiv 12) 10 (by decide)
  obtain ⟨r, e3⟩ := res_b (x.fdiv 120)
  obtain ⟨w, e4⟩ := res_b (x.fdiv 240)
  refine kg ?_; clear kg Gg
  refine ⟨t, d, r, w, ht, hd, fun nm last n => ?_⟩
  refine lvf (n := n + 1) (fn := f__law_param) (by kernel_rfl) (ρ := [(1851878757, .str nm), (1685217655, .int x), (29681726232032116, .bool last)]) (by kernel_rfl) ?_
  refine b_next (s_asg (e_and2 (b := last) (c := w) (by kernel_rfl) fun _ => e_cmp (e_res (q := 240) (k := 2) (X := x) (by kernel_rfl) (by decide) (by decide) (by decide) e4) e_int (bI_eq w))) ?_
  refine b_next (s_asg (e_ite (b := last && w) (x := .none) (y := dfD d) (by kernel_rfl) (fun _ => e_none) fun _ => e_call (e_es1 (e_res (q := 12) (k := 10) (X := x) (by kernel_rfl) (by decide) (by decide) (by decide) e2) e_nil) (ev_law_default hd n))) ?_
  refine b_ret (s_ret (e_tup (ds := [.str ⟨#[112, 97, 114, 97, 109]⟩, .str nm, tyD t, dfP d (last && w), .bool r, .bool (last && w), .str ⟨#[]⟩, .bool false]) ?_ (by kernel_rfl)))
  exact e_es1 e_str (e_es1 (by kernel_rfl) (e_es1 (e_call (e_es1 (e_mod (k := 12) (X := x) (by kernel_rfl) (by decide) e1) e_nil) (ev_law_type (by omega) n)) (e_es1 (by kernel_rfl) (e_es1 (e_cmp (e_res (q := 120) (k := 2) (X := x) (by kernel_rfl) (by decide) (by decide) (by decide) e3) e_int (bI_eq r)) (e_es1 (by kernel_rfl) (e_es1 e_str (e_es1 e_bool e_nil)))))))
end Mine
end

section
open PySem PySem.W PyProof.Rows PySem.Calls
set_option maxRecDepth 100000
namespace Mine

noncomputable def sA : Str := ⟨#[97]⟩
noncomputable def sB : Str := ⟨#[98]⟩
noncomputable def sC : Str := ⟨#[99]⟩
noncomputable def abc (k : Nat) : Str := match k with
  | 0 => sA
  | 1 => sB
  | _ => sC
theorem okA : nmG sA := ⟨by kernel_rfl, by decide⟩
theorem okB : nmG sB := ⟨by kernel_rfl, by decide⟩
theorem okC : nmG sC := ⟨by kernel_rfl, by decide⟩
theorem ev_law_params (x0 x1 x2 x3 : Int) {j : Nat} (hj : j < 4) : ∃ ps : List Pm, ps.length ≤ 3 ∧ (∀ p ∈ ps, p.ok ∧ nmG p.nm) ∧ ∀ (nm : Str) (n : Nat),
    evE (lv T (n + 2)).f (lv T (n + 2)).m isiT (knT T) (foT T) (.call 500186508389 [.comp (.call 450624087419657110315373 [.item (.str ⟨#[97, 98, 99]⟩) (.var 107), .item (.var 431415719795) (.bin .Add (.int 1) (.var 107)), .cmp .Eq (.var 107) (.bin .Sub (.var 1835101817) (.int 1))]) 107 (.call 491260897125 [.var 1835101817]) []])
      [(431415719795, .lst [.int x0, .int x1, .int x2, .int x3]), (1851878757, .str nm), (1751474532, .int x0), (1835101817, .int j)] = some (.tup (ps.map fun p => p.q.node)) := by
  refine hide fun Gg kg => ?_
  obtain ⟨t1, d1, r1, w1, a1, b1, h1⟩ := ev_law_param x1
  obtain ⟨t2, d2, r2, w2, a2, b2, h2⟩ := ev_law_param x2
  obtain ⟨t3, d3, r3, w3, a3, b3, h3⟩ := ev_law_param x3
  refine kg ?_; clear kg Gg
  rcases lt4 hj with rfl | rfl | rfl | rfl
  · exact ⟨[], by decide, by simp, fun nm n => by kernel_rfl⟩
  · refine ⟨[⟨sA, t1, d1, r1, w1⟩], by simp, ?_, fun nm n => ?_⟩
    · simp only [List.mem_singleton]; rintro p rfl; exact ⟨⟨a1, b1⟩, okA⟩
    · refine e_call (e_es1 (e_comp (src := .rng 1) (ds := [.int 0]) (by kernel_rfl) (by kernel_rfl) (by kernel_rfl) (k_cons (by kernel_rfl) (e_call (ds := [.str sA, .int x1, .bool true]) (by kernel_rfl) (h1 sA true n)) k_nil)) e_nil) (by kernel_rfl)
  · refine ⟨[⟨sA, t1, d1, r1, false⟩, ⟨sB, t2, d2, r2, w2⟩], by simp, ?_, fun nm n => ?_⟩
    · simp only [List.mem_cons, List.not_mem_nil, or_false]
      rintro p (rfl | rfl)
      · exact ⟨⟨a1, b1⟩, okA⟩
      · exact ⟨⟨a2, b2⟩, okB⟩
    · refine e_call (e_es1 (e_comp (src := .rng 2) (ds := [.int 0, .int 1]) (by kernel_rfl) (by kernel_rfl) (by kernel_rfl) (k_cons (by kernel_rfl) (e_call (ds := [.str sA, .int x1, .bool false]) (by kernel_rfl) (h1 sA false n)) (k_cons (by kernel_rfl) (e_call (ds := [.str sB, .int x2, .bool true]) (by kernel_rfl) (h2 sB true n)) k_nil))) e_nil) (by kernel_rfl)
  · refine ⟨[⟨sA, t1, d1, r1, false⟩, ⟨sB, t2, d2, r2, false⟩, ⟨sC, t3, d3, r3, w3⟩], by simp, ?_, fun nm n => ?_⟩
    · simp only [List.mem_cons, List.not_mem_nil, or_false]
      rintro p (rfl | rfl | rfl)
      · exact ⟨⟨a1, b1⟩, okA⟩
      · exact ⟨⟨a2, b2⟩, okB⟩
      · exact ⟨⟨a3, b3⟩, okC⟩
    · refine e_call (e_es1 (e_comp (src := .rng 3) (ds := [.int 0, .int 1, .int 2]) (by kernel_rfl) (by kernel_rfl) (by kernel_rfl) (k_cons (by kernel_rfl) (e_call (ds := [.str sA, .int x1, .bool false]) (by kernel_rfl) (h1 sA false n)) (k_cons (by kernel_rfl) (e_call (ds := [.str sB, .int x2, .bool false]) (by kernel_rfl) (h2 sB false n)) (k_cons (by kernel_rfl) (e_call (ds := [.str sC, .int x3, .bool true]) (by kernel_rfl) (h3 sC true n)) k_nil)))) e_nil) (by kernel_rfl)

theorem ev_law_method (x0 x1 x2 x3 : Int) : ∃ m : Md, (m.nm = ⟨#[]⟩ ∧ m.ok) ∧ ∀ (nm : Str) (n : Nat), (lv T (n + 3)).f 115359766379428938919735140 [.lst [.int x0, .int x1, .int x2, .int x3], .str nm] = some (.tup [{ m with nm := nm }.node, m.flags]) := by
  refine hide fun Gg kg => ?_
  obtain ⟨j, hj, e0⟩ := res_lt x0 4 (by decide)
  obtain ⟨t, ht, e1⟩ := res_lt (x0.fdiv 4) 14 (by decide)
  obtain ⟨rf, e2⟩ := res_b (x0.fdiv 56)
  obtain ⟨v, hv, e3⟩ := res_lt (x0.fdiv 112) 3 (by decide)
  obtain ⟨st, e4⟩ := res_b (x0.fdiv 336)
  obtain ⟨ab, e5⟩ := res_b (x0.fdiv 672)
  obtain ⟨fi, e6⟩ := res_b (x0.fdiv 1344)
  obtain ⟨ps, p1, p2, hp⟩ := ev_law_params x0 x1 x2 x3 hj
  refine kg ?_; clear kg Gg
  refine ⟨⟨⟨#[]⟩, ps, t, rf, v, st, ab, fi⟩, ⟨rfl, ⟨p1, p2, ht, hv⟩⟩, fun nm n => ?_⟩
  refine lvf (n := n + 2) (fn := f__law_method) (by kernel_rfl) (ρ := [(431415719795, .lst [.int x0, .int x1, .int x2, .int x3]), (1851878757, .str nm)]) (by kernel_rfl) ?_
  refine b_next (s_asg2 (x := .int x0) (y := .int j) (e_tup (e_es1 (by kernel_rfl) (e_es1 (e_mod (k := 4) (X := x0) (by kernel_rfl) (by decide) e0) e_nil)) (by kernel_rfl)) (by kernel_rfl)) ?_
  refine b_next (s_asg (hp nm n)) ?_
  refine b_next (s_asg (e_bin (x := .tup [.str (visS v)]) (e_tup (e_es1 (e_item (x := .tup [.str (visS 0), .str (visS 1), .str (visS 2)]) (by kernel_rfl) (e_res (q := 112) (k := 3) (X := x0) (by kernel_rfl) (by decide) (by decide) (by decide) e3) (d := .str (visS v)) (by rcases (show v = 0 ∨ v = 1 ∨ v = 2 by omega) with rfl | rfl | rfl <;> kernel_rfl)) e_nil) (by kernel_rfl))
    (e_ite (b := st) (x := .tup [.str sStatic]) (y := .tup []) (e_cmp (e_res (q := 336) (k := 2) (X := x0) (by kernel_rfl) (by decide) (by decide) (by decide) e4) e_int (bI_eq st)) (fun _ => by kernel_rfl) (fun _ => by kernel_rfl)) (d := .tup (.str (visS v) :: (if st then [.str sStatic] else []))) (by cases st <;> kernel_rfl))) ?_
  refine b_next (s_asg (e_bin (e_bin (x := .tup (.str (visS v) :: (if st then [.str sStatic] else []))) (by kernel_rfl) (e_ite (b := ab) (x := .tup [.str sAbstract]) (y := .tup []) (e_cmp (e_res (q := 672) (k := 2) (X := x0) (by kernel_rfl) (by decide) (by decide) (by decide) e5) e_int (bI_eq ab)) (fun _ => by kernel_rfl) (fun _ => by kernel_rfl)) (d := .tup (.str (visS v) :: ((if st then [.str sStatic] else []) ++ (if ab then [.str sAbstract] else [])))) (by cases st <;> cases ab <;> kernel_rfl))
    (e_ite (b := fi) (x := .tup [.str sFinal]) (y := .tup []) (e_cmp (e_res (q := 1344) (k := 2) (X := x0) (by kernel_rfl) (by decide) (by decide) (by decide) e6) e_int (bI_eq fi)) (fun _ => by kernel_rfl) (fun _ => by kernel_rfl)) (d := flagsD v st ab fi) (by cases st <;> cases ab <;> cases fi <;> kernel_rfl))) ?_
  refine b_ret (s_ret (e_tup (e_es1 (d := methQ nm (ps.map fun p => p.q.node) (tyD t) rf) (e_tup (e_es1 e_str (e_es1 (by kernel_rfl) (e_es1 (by kernel_rfl) (e_es1 (e_call (e_es1 (e_res (q := 4) (k := 14) (X := x0) (by kernel_rfl) (by decide) (by decide) (by decide) e1) e_nil) (ev_law_type ht (n + 1))) (e_es1 (by kernel_rfl) (e_es1 (e_cmp (e_res (q := 56) (k := 2) (X := x0) (by kernel_rfl) (by decide) (by decide) (by decide) e2) e_int (bI_eq rf)) (e_es1 e_bool e_nil))))))) (by kernel_rfl)) (e_es1 (d := flagsD v st ab fi) (by kernel_rfl) e_nil)) (by kernel_rfl)) |>.trans ?_)
  simp [Md.node, Md.qs, Md.flags, List.map_map, Function.comp_def]
end Mine
end

section
open PySem PySem.W PyProof.Rows PySem.Calls
set_option maxRecDepth 100000
namespace Mine

theorem item_lst {l : List D} {k : Nat} {d : D} (hk : k < 100) (h : l[k]? = some d) : itemD (.lst l) (.int k) = some d := by
  have hl : k < l.length := by
    rcases Nat.lt_or_ge k l.length with q | q
    · exact q
    · rw [List.getElem?_eq_none q] at h; cases h
  have f : fits63 (k : Int) = true := by
    unfold fits63
    rw [Bool.and_eq_true, decide_eq_true_eq, decide_eq_true_eq]
    omega
  have g : seqIndex? (k : Int) l.length = some k := by
    unfold seqIndex?
    have : ¬ ((k : Int) < 0) := by omega
    simp only [this, if_false]
    have : (decide (0 ≤ (k : Int)) && decide ((k : Int) < (l.length : Int))) = true := by
      rw [Bool.and_eq_true, decide_eq_true_eq, decide_eq_true_eq]; omega
    rw [if_pos this]
    simp
  show (if fits63 (k : Int) then (seqIndex? (k : Int) l.length).bind fun j => l[j]? else none) = some d
  rw [f, if_pos rfl, g]
  exact h

noncomputable def rows9 : List D := [.int 6, .int 3, .int 19, .int 0, .int 14, .int 1, .int 25, .int 0, .int 1]
theorem lt9 {t : Nat} (h : t < 9) : t = 0 ∨ t = 1 ∨ t = 2 ∨ t = 3 ∨ t = 4 ∨ t = 5 ∨ t = 6 ∨ t = 7 ∨ t = 8 := (by decide +kernel : ∀ t : Fin 9, t.1 = 0 ∨ t.1 = 1 ∨ t.1 = 2 ∨ t.1 = 3 ∨ t.1 = 4 ∨ t.1 = 5 ∨ t.1 = 6 ∨ t.1 = 7 ∨ t.1 = 8) ⟨t, h⟩
theorem ev_draw (xs : List Int) (hx : xs.length ≤ 63) {k : Nat} (hk : k < 9) : ∃ x : Int, evE L.f L.m isiT (knT T) (foT T) (.bin .Add (.item (.var 1919907699) (.var 107)) (.ite (.cmp .Lt (.var 107) (.call 7103854 [.var 126870958469236])) (.item (.var 126870958469236) (.var 107)) (.int 0)))
    (put [(126870958469236, .lst (xs.map .int)), (1919907699, .lst rows9)] 107 (.int k)) = some (.int x) := by
  have hr : ∃ r : Int, evE L.f L.m isiT (knT T) (foT T) (.item (.var 1919907699) (.var 107)) (put [(126870958469236, .lst (xs.map .int)), (1919907699, .lst rows9)] 107 (.int k)) = some (.int r) := by
    rcases lt9 hk with rfl | rfl | rfl | rfl | rfl | rfl | rfl | rfl | rfl
    · exact ⟨6, by kernel_rfl⟩
    · exact ⟨3, by kernel_rfl⟩
    · exact ⟨19, by kernel_rfl⟩
    · exact ⟨0, by kernel_rfl⟩
    · exact ⟨14, by kernel_rfl⟩
    · exact ⟨1, by kernel_rfl⟩
    · exact ⟨25, by kernel_rfl⟩
    · exact ⟨0, by kernel_rfl⟩
    · exact ⟨1, by kernel_rfl⟩
  obtain ⟨r, hr⟩ := hr
  have hlen : L.f 7103854 [.lst (xs.map .int)] = some (.int (xs.map D.int).length) := by
    have e : L.f 7103854 [.lst (xs.map .int)] = if Nat.ble (xs.map D.int).length 10000000 then some (.int (xs.map D.int).length) else none := by kernel_rfl
    rw [e, if_pos (Nat.ble_eq_true_of_le (by rw [List.length_map]; omega))]
  rw [List.length_map] at hlen
  have hc : cmpD .Lt (.int k) (.int xs.length) = some (decide (k < xs.length)) := c_lt _ _
  refine ⟨r + (if h : k < xs.length then xs[k] else 0), ?_⟩
  refine e_bin hr (e_ite (b := decide (k < xs.length)) (x := .int (if h : k < xs.length then xs[k] else 0)) (y := .int 0) (e_cmp (by kernel_rfl) (e_call (e_es1 (by kernel_rfl) e_nil) hlen) hc) (fun hb => ?_) (fun _ => e_int)) ?_
  · have hb' := of_decide_eq_true hb
    rw [dif_pos hb']
    refine e_item (by kernel_rfl) (by kernel_rfl) (item_lst (l := xs.map .int) (k := k) (by omega) ?_)
    simp [hb']
  · by_cases hb : k < xs.length
    · rw [dif_pos hb, decide_eq_true hb]; rfl
    · rw [dif_neg hb, decide_eq_false hb]; rfl
theorem evB0_next {Γ : Nat → List D → Option D} {Γm : Nat → D → List D → Option D} {isi : D → Nat → Option Bool} {kn : Nat → Bool} {fo : Nat → Nat → Bool} {Γk : Nat → List D → Option (List (Nat × D))} {Γu : Nat → Nat → List (Nat × D) → List D → Option (List (Nat × D))} {p : PS} {r : List PS} {ρ ρ₁ : List (Nat × D)} {x : Option (List (Nat × D))}
    (h : evS Γ Γm isi kn fo Γk Γu p ρ none = some (.next ρ₁ none)) (h2 : evB0 Γ Γm isi kn fo Γk Γu r ρ₁ = x) : evB0 Γ Γm isi kn fo Γk Γu (p :: r) ρ = x := by
  simp only [evB0, h]; exact h2
theorem e_upto {Γ : Nat → List D → Option D} {Γm : Nat → D → List D → Option D} {isi : D → Nat → Option Bool} {kn : Nat → Bool} {fo : Nat → Nat → Bool} {ρ : List (Nat × D)} {e : PE} {x d : D} {k : Int} (h : evE Γ Γm isi kn fo e ρ = some x) (h2 : uptoD x k = some d) : evE Γ Γm isi kn fo (.upto e k) ρ = some d := jD h h2
noncomputable def sConstruct : Str := ⟨#[95, 95, 99, 111, 110, 115, 116, 114, 117, 99, 116]⟩
noncomputable def sM : Str := ⟨#[109]⟩
noncomputable def nmS (c : Bool) : Str := if c then sConstruct else sM
theorem ev_lawA (xs : List Int) (hx : xs.length ≤ 63) : ∃ (l : List D) (nm : Str) (s b : Md), ((∃ c, nm = nmS c) ∧ s.nm = nm ∧ b.nm = nm ∧ s.ok ∧ b.ok) ∧ evB0 L.f L.m isiT (knT T) (foT T) L.k L.u lawA [(nScript, .lst (xs.map .int))] =
    some [(126870958469236, .lst (xs.map .int)), (1919907699, .lst rows9), (431415719795, .lst l), (1851878757, .str nm), (8319664048651068517, s.node), (2129833996420263274355, s.flags), (1814802986928085886053, b.node), (464589564653555576563571, b.flags)] := by
  refine hide fun Gg kg => ?_
  obtain ⟨x0, h0⟩ := ev_draw xs hx (k := 0) (by decide)
  obtain ⟨x1, h1⟩ := ev_draw xs hx (k := 1) (by decide)
  obtain ⟨x2, h2⟩ := ev_draw xs hx (k := 2) (by decide)
  obtain ⟨x3, h3⟩ := ev_draw xs hx (k := 3) (by decide)
  obtain ⟨x4, h4⟩ := ev_draw xs hx (k := 4) (by decide)
  obtain ⟨x5, h5⟩ := ev_draw xs hx (k := 5) (by decide)
  obtain ⟨x6, h6⟩ := ev_draw xs hx (k := 6) (by decide)
  obtain ⟨x7, h7⟩ := ev_draw xs hx (k := 7) (by decide)
  obtain ⟨x8, h8⟩ := ev_draw xs hx (k := 8) (by decide)
  obtain ⟨c, hc, ec⟩ := res_lt x8 6 (by decide)
  obtain ⟨s, ⟨s1, s2⟩, hs⟩ := ev_law_method x0 x1 x2 x3
  obtain ⟨b, ⟨b1, b2⟩, hb⟩ := ev_law_method x4 x5 x6 x7
  refine kg ?_; clear kg Gg
  refine ⟨[.int x0, .int x1, .int x2, .int x3, .int x4, .int x5, .int x6, .int x7, .int x8], nmS (decide (c = 0)), { s with nm := nmS (decide (c = 0)) }, { b with nm := nmS (decide (c = 0)) }, ⟨⟨_, rfl⟩, rfl, rfl, ⟨s2.len, s2.ps, s2.t, s2.vi⟩, ⟨b2.len, b2.ps, b2.t, b2.vi⟩⟩, ?_⟩
  have hu : uptoD (.lst (xs.map .int)) 63 = some (.lst (xs.map .int)) := by
    show (if Nat.ble (xs.map D.int).length 10000000 then some (D.lst ((xs.map D.int).take 63)) else none) = _
    rw [if_pos (Nat.ble_eq_true_of_le (by rw [List.length_map]; omega)), List.take_of_length_le (by rw [List.length_map]; exact hx)]
  refine evB0_next (s_asg (e_upto (e_var (by kernel_rfl)) hu)) ?_
  refine evB0_next (s_asg (d := .lst rows9) (by kernel_rfl)) ?_
  refine evB0_next (s_asg (e_comp (src := .rng 9) (ds := [.int 0, .int 1, .int 2, .int 3, .int 4, .int 5, .int 6, .int 7, .int 8]) (by kernel_rfl) (by kernel_rfl) (by kernel_rfl) (k_cons (by kernel_rfl) h0 (k_cons (by kernel_rfl) h1 (k_cons (by kernel_rfl) h2 (k_cons (by kernel_rfl) h3 (k_cons (by kernel_rfl) h4 (k_cons (by kernel_rfl) h5 (k_cons (by kernel_rfl) h6 (k_cons (by kernel_rfl) h7 (k_cons (by kernel_rfl) h8 k_nil))))))))))) ?_
  refine evB0_next (s_asg (d := .str (nmS (decide (c = 0)))) (Eq.trans (e_ite (b := decide (c = 0)) (x := .str sConstruct) (y := .str sM) (e_cmp (e_mod (X := x8) (k := 6) (by kernel_rfl) (by decide) ec) e_int (by rcases (show c = 0 ∨ c = 1 ∨ c = 2 ∨ c = 3 ∨ c = 4 ∨ c = 5 by omega) with rfl | rfl | rfl | rfl | rfl | rfl <;> kernel_rfl)) (fun _ => by kernel_rfl) (fun _ => by kernel_rfl)) (by unfold nmS; cases decide (c = 0) <;> rfl))) ?_
  refine evB0_next (s_asg2 (x := _) (y := _) (e_call (ds := [.lst [.int x0, .int x1, .int x2, .int x3], .str (nmS (decide (c = 0)))]) (by kernel_rfl) (hs _ 13)) (by kernel_rfl)) ?_
  refine evB0_next (s_asg2 (x := _) (y := _) (e_call (ds := [.lst [.int x4, .int x5, .int x6, .int x7], .str (nmS (decide (c = 0)))]) (by kernel_rfl) (hb _ 13)) (by kernel_rfl)) ?_
  rfl
end Mine
end

section
open PySem PySem.W PyProof.Rows PySem.Calls
set_option maxRecDepth 100000
namespace Mine

section
variable {Γ : Nat → List D → Option D} {Γm : Nat → D → List D → Option D} {isi : D → Nat → Option Bool} {kn : Nat → Bool} {fo : Nat → Nat → Bool} {Γk : Nat → List D → Option (List (Nat × D))} {Γu : Nat → Nat → List (Nat × D) → List D → Option (List (Nat × D))}
variable {ρ : List (Nat × D)} {l : List PE} {ds : List D} {fs : List (Nat × D)}
theorem jFs {o : Option (List (Nat × D))} {f : List (Nat × D) → Option Out} {z : Option Out} (h : o = some fs) (h2 : f fs = z) : (match (generalizing := false) o with | some x => f x | none => none) = z := by subst h; exact h2
theorem s_mk {x c : Nat} (hx : isNone' (look ρ x) = true) (hl : evEs Γ Γm isi kn fo l ρ = some ds) (hk : Γk c ds = some fs) : evS Γ Γm isi kn fo Γk Γu (.mk x c l) ρ none = some (.next ρ (some (x, .inst c fs))) := jB hx (jL hl (jFs hk rfl))
end
noncomputable def fs0 (nm : Str) (pars : List D) : List (Nat × D) := [(1851878757, .str nm), (123563833126259, .lst pars), (1651467385, .tup []), (1954115685, .none), (115944243488102, .bool false), (115944242767214, .bool false), (1945221618120340564323, .bool false), (559184469392749484405881, .str (visS 0)), (439904986995, .tup []), (6515827, .none), (121364843951717, .none), (1945221611459164270436, .bool false), (32497584235438963, .dct []), (1668244581, .none)]
theorem k_func (nm : Str) (pars : List D) (n : Nat) : (lv T (n + 1)).k 1182101091 [.str nm, .lst pars, .tup []] = some (fs0 nm pars) := by kernel_rfl
theorem func_rest (nm : Str) (pars nodes : List D) (ret k : D) (rf st ab fi : Bool) {v : Nat} (hv : v < 3) (n : Nat) :
    evB (lv T (n + 3)).f (lv T (n + 3)).m isiT (knT T) (foT T) (lv T (n + 3)).k (lv T (n + 3)).u (f_func_of.body.drop 1) [(1852793957, methQ nm nodes ret rf), (461379826547, k), (439904986995, flagsD v st ab fi), (559184469392749484405881, .str (visS 0))] (some (1835099237, .inst 1182101091 (fs0 nm pars))) =
      some (.ret (funcQ nm pars ret rf st (visS v) (flD ab fi) k)) := by
  rcases (show v = 0 ∨ v = 1 ∨ v = 2 by omega) with rfl | rfl | rfl <;> cases st <;> cases ab <;> cases fi <;> kernel_rfl
theorem pars_comp (nm : Str) (ret k fl : D) (rf : Bool) {ps : List Pm} (hl : ps.length ≤ 3) (h : ∀ p ∈ ps, p.ok) (n : Nat) :
    evE (lv T (n + 3)).f (lv T (n + 3)).m isiT (knT T) (foT T) (.comp (.call 8097879367761227622 [.var 482671223149]) 482671223149 (.item (.var 1852793957) (.int 2)) []) [(1852793957, methQ nm (ps.map fun p => p.q.node) ret rf), (461379826547, k), (439904986995, fl), (559184469392749484405881, .str (visS 0))] = some (.lst (ps.map fun p => p.q.par)) := by
  revert h
  apply len3 ?_ ?_ ?_ ?_ ps hl
  · intro _; kernel_rfl
  · intro p h
    exact e_comp (src := .tup [p.q.node]) (ds := [p.q.node]) (by kernel_rfl) (by kernel_rfl) (by kernel_rfl) (k_cons (by kernel_rfl) (e_call (ds := [p.q.node]) (by kernel_rfl) (ev_param_of (h p (by simp)) n)) k_nil)
  · intro p p' h
    exact e_comp (src := .tup [p.q.node, p'.q.node]) (ds := [p.q.node, p'.q.node]) (by kernel_rfl) (by kernel_rfl) (by kernel_rfl) (k_cons (by kernel_rfl) (e_call (ds := [p.q.node]) (by kernel_rfl) (ev_param_of (h p (by simp)) n)) (k_cons (by kernel_rfl) (e_call (ds := [p'.q.node]) (by kernel_rfl) (ev_param_of (h p' (by simp)) n)) k_nil))
  · intro p p' p'' h
    exact e_comp (src := .tup [p.q.node, p'.q.node, p''.q.node]) (ds := [p.q.node, p'.q.node, p''.q.node]) (by kernel_rfl) (by kernel_rfl) (by kernel_rfl) (k_cons (by kernel_rfl) (e_call (ds := [p.q.node]) (by kernel_rfl) (ev_param_of (h p (by simp)) n)) (k_cons (by kernel_rfl) (e_call (ds := [p'.q.node]) (by kernel_rfl) (ev_param_of (h p' (by simp)) n)) (k_cons (by kernel_rfl) (e_call (ds := [p''.q.node]) (by kernel_rfl) (ev_param_of (h p'' (by simp)) n)) k_nil)))
theorem ev_func_of {m : Md} (h : m.ok) (k : D) (n : Nat) : (lv T (n + 4)).f 28839564598538086 [m.node, k, m.flags] = some (m.func k) := by
  have e1 : m.node = methQ m.nm (m.ps.map fun p => p.q.node) (tyD m.t) m.rf := by simp [Md.node, Md.qs, List.map_map, Function.comp_def]
  have e2 : m.func k = funcQ m.nm (m.ps.map fun p => p.q.par) (tyD m.t) m.rf m.st (visS m.vi) (flD m.ab m.fi) k := by simp [Md.func, Md.qs, List.map_map, Function.comp_def]
  rw [e1, e2]
  refine lvf (n := n + 3) (fn := f_func_of) (by kernel_rfl) (ρ := [(1852793957, methQ m.nm (m.ps.map fun p => p.q.node) (tyD m.t) m.rf), (461379826547, k), (439904986995, flagsD m.vi m.st m.ab m.fi), (559184469392749484405881, .str (visS 0))]) (by kernel_rfl) ?_
  refine b_next (s_mk (by kernel_rfl) (e_es1 (d := .str m.nm) (by kernel_rfl) (e_es1 (pars_comp m.nm (tyD m.t) k _ m.rf h.len (fun p hp => (h.ps p hp).1) n) (e_es1 (d := .tup []) (by kernel_rfl) e_nil))) (k_func _ _ (n + 2))) ?_
  exact func_rest m.nm _ _ (tyD m.t) k m.rf m.st m.ab m.fi h.vi n
end Mine
end

section
open PySem PySem.W PyProof.Rows PySem.Calls
set_option maxRecDepth 100000
namespace Mine

section
variable {Γ : Nat → List D → Option D} {Γm : Nat → D → List D → Option D} {isi : D → Nat → Option Bool} {kn : Nat → Bool} {fo : Nat → Nat → Bool} {Γk : Nat → List D → Option (List (Nat × D))} {Γu : Nat → Nat → List (Nat × D) → List D → Option (List (Nat × D))}
variable {p : PS} {r : List PS} {ρ ρ₁ : List (Nat × D)} {o o₁ : Option (Nat × D)} {d : D} {x y : Str} {b c : Bool} {e e1 e2 t : PE} {l : List PE} {ds : List D} {n m : Nat}
theorem add_str (h : x.length + y.length ≤ 10000) : binD .Add (.str x) (.str y) = some (.str (x ++ y)) := by
  show (if x.length + y.length ≤ sizeLine then some (D.str (x ++ y)) else none) = _
  rw [if_pos]
  have : sizeLine = 16777216 := by decide +kernel
  omega
/-- an expression that is a text, its length held -/
structure EvS (Γ : Nat → List D → Option D) (Γm : Nat → D → List D → Option D) (isi : D → Nat → Option Bool) (kn : Nat → Bool) (fo : Nat → Nat → Bool) (e : PE) (ρ : List (Nat × D)) (n : Nat) (x : Str) : Prop where
  ev : evE Γ Γm isi kn fo e ρ = some (.str x)
  sh : x.length ≤ n
theorem EvS.cat (a : EvS Γ Γm isi kn fo e1 ρ n x) (b : EvS Γ Γm isi kn fo e2 ρ m y) (h : Nat.ble (n + m) 10000 = true) : EvS Γ Γm isi kn fo (.bin .Add e1 e2) ρ (n + m) (x ++ y) := by
  have hl : x.length + y.length ≤ n + m := Nat.add_le_add a.sh b.sh
  exact ⟨e_bin a.ev b.ev (add_str (Nat.le_trans hl (Nat.le_of_ble_eq_true h))), by rw [Str.length_append]; exact hl⟩
theorem EvS.lit (h : Nat.ble x.length n = true) : EvS Γ Γm isi kn fo (.str x) ρ n x := ⟨e_str, Nat.le_of_ble_eq_true h⟩
theorem EvS.ite (ht : evE Γ Γm isi kn fo t ρ = some (.bool b)) (h1 : b = true → EvS Γ Γm isi kn fo e1 ρ n x) (h2 : b = false → EvS Γ Γm isi kn fo e2 ρ n y) : EvS Γ Γm isi kn fo (.ite t e1 e2) ρ n (if b then x else y) := by
  refine ⟨e_ite (x := .str x) (y := .str y) ht (fun h => (h1 h).ev) (fun h => (h2 h).ev) |>.trans (by cases b <;> rfl), ?_⟩
  cases b
  · exact (h2 rfl).sh
  · exact (h1 rfl).sh
theorem EvS.var {k : Nat} (h : look ρ k = some (.str x)) (hl : x.length ≤ n) : EvS Γ Γm isi kn fo (.var k) ρ n x := ⟨e_var h, hl⟩
theorem EvS.call {f : Nat} (h : evEs Γ Γm isi kn fo l ρ = some ds) (h2 : Γ f ds = some (.str x)) (hl : x.length ≤ n) : EvS Γ Γm isi kn fo (.call f l) ρ n x := ⟨e_call h h2, hl⟩
theorem jSt {o : Option D} {f : Str → Option Out} {z : Option Out} {b : Str} (h : o = some (.str b)) (h2 : f b = z) : (match (generalizing := false) o with | some (.str a) => f a | _ => none) = z := by subst h; exact h2
theorem s_aug {k : Nat} (h1 : look ρ k = some (.str x)) (h2 : EvS Γ Γm isi kn fo e ρ n y) (h : x.length + n ≤ 10000) : evS Γ Γm isi kn fo Γk Γu (.aug k e) ρ none = some (.next (put ρ k (.str (x ++ y))) none) := by
  have := add_str (x := x) (y := y) (by have := h2.sh; omega)
  have h3 : evX Γ Γm isi kn fo e ρ none = some (.str y) := h2.ev
  exact jB (free_none (x := k)) (jSt h1 (jSt h3 (jD this rfl)))
end

/-- the texts of types -/
noncomputable def strOf : Option D → Str
  | some (.str s) => s
  | _ => ⟨#[]⟩
noncomputable def strIs (x : Option D) (s : Str) : Bool := match x with
  | some (.str a) => a == s
  | _ => false
theorem strIs_of {x : Option D} {s : Str} (h : strIs x s = true) : x = some (.str s) := by
  unfold strIs at h
  split at h
  · rw [beq_iff_eq.mp h]
  · cases h
noncomputable def ttS (τ : D) : Str := strOf ((lv T 9).f 2148572918086937966708 [τ])
noncomputable def ttB (n : Nat) (τ : D) : Bool := strIs ((lv T (n + 2)).f 2148572918086937966708 [τ]) (ttS τ) && strIs ((lv T (n + 2)).f 495466423873881045027413247195767923 [τ]) (ttS τ) && Nat.ble (ttS τ).length 40
theorem ttE_tab (n : Nat) : ((List.range 20).all fun i => ttB n (tE (i + 1))) = true := by kernel_rfl
theorem ttR_tab (n : Nat) : ((List.range 13).all fun i => ttB n (tyD (i + 1))) = true := by kernel_rfl
structure TtOK (τ : D) : Prop where
  top : notTop τ = true
  isn : isD τ .none = some false
  e1 : ∀ n, (lv T (n + 2)).f 2148572918086937966708 [τ] = some (.str (ttS τ))
  e2 : ∀ n, (lv T (n + 2)).f 495466423873881045027413247195767923 [τ] = some (.str (ttS τ))
  len : (ttS τ).length ≤ 40
noncomputable def TyOK (τ : D) : Prop := τ = .none ∨ TtOK τ
theorem tt_of {τ : D} (h : ∀ n, ttB n τ = true) (ht : ∃ l, τ = .tup l) : TtOK τ := by
  have h' : ∀ n, (strIs ((lv T (n + 2)).f 2148572918086937966708 [τ]) (ttS τ) = true ∧ strIs ((lv T (n + 2)).f 495466423873881045027413247195767923 [τ]) (ttS τ) = true) ∧ Nat.ble (ttS τ).length 40 = true := fun n => by
    have := h n
    unfold ttB at this
    rw [Bool.and_eq_true, Bool.and_eq_true] at this
    exact this
  refine ⟨?_, ?_, fun n => strIs_of (h' n).1.1, fun n => strIs_of (h' n).1.2, Nat.le_of_ble_eq_true (h' 0).2⟩
  · obtain ⟨l, rfl⟩ := ht; rfl
  · obtain ⟨l, rfl⟩ := ht; rfl
theorem noneOrTup.tyOK {τ : D} (h : noneOrTup τ) (h2 : τ ≠ .none → ∀ n, ttB n τ = true) : TyOK τ := by
  rcases h with rfl | ⟨l, rfl⟩
  · exact .inl rfl
  · exact .inr (tt_of (h2 (by intro q; cases q)) ⟨l, rfl⟩)
theorem tyOK_E {t d : Nat} (v : Bool) (h1 : t < 12) (h2 : d < 10) : TyOK (eT t d v) := by
  obtain ⟨e, hi⟩ := eT_tE v h1 h2
  refine (eT_tup v h1 h2).tyOK fun hne n => ?_
  rw [e] at hne ⊢
  generalize eI t d v = i at *
  cases i with
  | zero => exact absurd rfl hne
  | succ i => exact List.all_eq_true.mp (ttE_tab n) i (List.mem_range.mpr (by omega))
theorem tyD_tup {i : Nat} (hi : i < 14) : noneOrTup (tyD i) := nOT_of (tab1 (f := fun i => nOT (tyD i)) (g := fun _ => true) (n := 14) (by kernel_rfl) hi)
theorem tyOK_R {j : Nat} (h : j < 14) : TyOK (tyD j) := by
  refine (tyD_tup h).tyOK fun hne n => ?_
  cases j with
  | zero => exact absurd rfl hne
  | succ i => exact List.all_eq_true.mp (ttR_tab n) i (List.mem_range.mpr (by omega))
theorem TtOK.ne {τ : D} (h : TtOK τ) : τ ≠ .none := by
  rintro rfl
  exact absurd h.isn (by decide)
theorem TyOK.top {τ : D} (h : TyOK τ) : notTop τ = true := by
  rcases h with rfl | h
  · rfl
  · exact h.top
noncomputable def ptS (τ : D) : Str := match τ with
  | .none => ⟨#[]⟩
  | τ => ttS τ ++ ⟨#[32]⟩
theorem ptS_of {τ : D} (h : TtOK τ) : ptS τ = ttS τ ++ ⟨#[32]⟩ := by
  have := h.ne
  unfold ptS
  split
  · exact absurd rfl this
  · rfl
theorem ev_pt {ρ : List (Nat × D)} {te : PE} {τ : D} (h : TyOK τ) {n : Nat} (ht : evE (lv T (n + 2)).f (lv T (n + 2)).m isiT (knT T) (foT T) te ρ = some τ) {f : Nat} (hf : f = 2148572918086937966708 ∨ f = 495466423873881045027413247195767923) :
    EvS (lv T (n + 2)).f (lv T (n + 2)).m isiT (knT T) (foT T) (.ite (.cmp .Is te .none) (.str ⟨#[]⟩) (.bin .Add (.call f [te]) (.str ⟨#[32]⟩))) ρ 41 (ptS τ) := by
  rcases h with rfl | h
  · exact EvS.ite (b := true) (x := ⟨#[]⟩) (y := ⟨#[]⟩) (e_cmp ht e_none rfl) (fun _ => .lit rfl) (fun h => by cases h)
  · have := EvS.ite (Γm := (lv T (n + 2)).m) (kn := knT T) (fo := foT T) (isi := isiT) (b := false) (n := 41) (e1 := .str ⟨#[]⟩) (x := ⟨#[]⟩) (y := ttS τ ++ ⟨#[32]⟩) (e_cmp (op := .Is) ht e_none h.isn) (fun h => by cases h) (fun _ => EvS.cat (n := 40) (m := 1) (EvS.call (f := f) (e_es1 ht e_nil) (by rcases hf with rfl | rfl; exact h.e1 n; exact h.e2 n) h.len) (.lit rfl) rfl)
    rw [ptS_of h]
    exact this
/-- the texts of defaults -/
noncomputable def dwS (d : Nat) : Str := strOf ((lv T 9).f 7954198008087623174670991385715 [dfD d])
theorem dw_tab (n : Nat) : ((List.range 9).all fun i => strIs ((lv T (n + 4)).f 7954198008087623174670991385715 [dfD (i + 1)]) (dwS (i + 1)) && Nat.ble (dwS (i + 1)).length 20) = true := by kernel_rfl
theorem ev_dw {d : Nat} (h : d < 10) (h0 : d ≠ 0) (n : Nat) : (lv T (n + 4)).f 7954198008087623174670991385715 [dfD d] = some (.str (dwS d)) ∧ (dwS d).length ≤ 20 := by
  cases d with
  | zero => exact absurd rfl h0
  | succ i =>
    have := List.all_eq_true.mp (dw_tab n) i (List.mem_range.mpr (by omega))
    rw [Bool.and_eq_true] at this
    exact ⟨strIs_of this.1, Nat.le_of_ble_eq_true this.2⟩

noncomputable def Pm.hasD (p : Pm) : Bool := !(Nat.beq p.d 0) && !p.v
noncomputable def rS (b : Bool) : Str := if b then ⟨#[38]⟩ else ⟨#[]⟩
noncomputable def vS (b : Bool) : Str := if b then ⟨#[46, 46, 46]⟩ else ⟨#[]⟩
noncomputable def baseW (p : Pm) : Str := ptS p.q.τ ++ (((rS p.r ++ vS p.v) ++ ⟨#[36]⟩) ++ p.nm)
noncomputable def sEq : Str := ⟨#[32, 61, 32]⟩
noncomputable def pW (p : Pm) (o : Bool) : Str := if o && p.hasD then baseW p ++ (sEq ++ dwS p.d) else baseW p
theorem len_if {b : Bool} {x y : Str} {n : Nat} (h1 : x.length ≤ n) (h2 : y.length ≤ n) : (if b then x else y).length ≤ n := by cases b <;> assumption
theorem baseW_len {p : Pm} (hp : p.ok) (hn : p.nm.length ≤ 1) : (baseW p).length ≤ 47 := by
  have e1 : (ptS p.q.τ).length ≤ 41 := by
    rcases tyOK_E p.v hp.1 hp.2 with h | h
    · show (ptS (eT p.t p.d p.v)).length ≤ 41
      rw [h]; decide
    · show (ptS (eT p.t p.d p.v)).length ≤ 41
      rw [ptS_of h, Str.length_append]
      have := h.len
      have : Str.length ⟨#[32]⟩ = 1 := rfl
      omega
  have e2 : (rS p.r).length ≤ 1 := len_if (by decide) (by decide)
  have e3 : (vS p.v).length ≤ 3 := len_if (by decide) (by decide)
  have e4 : Str.length ⟨#[36]⟩ = 1 := rfl
  unfold baseW
  simp only [Str.length_append]
  omega
theorem pW_len {p : Pm} {o : Bool} (hp : p.ok) (hn : p.nm.length ≤ 1) : (pW p o).length ≤ 70 := by
  have h1 := baseW_len hp hn
  unfold pW
  split
  · rename_i h
    rw [Bool.and_eq_true] at h
    have h0 : p.d ≠ 0 := by
      rintro q
      have := h.2
      unfold Pm.hasD at this
      rw [q] at this
      cases this
    have h2 := (ev_dw hp.2 h0 0).2
    have e4 : sEq.length = 3 := rfl
    simp only [Str.length_append]
    omega
  · omega
theorem isNot_df {p : Pm} (h : p.ok) : cmpD .IsNot (dfP p.d p.v) .none = some p.hasD ∧ notTop (dfP p.d p.v) = true ∧ (p.hasD = true → dfP p.d p.v = dfD p.d ∧ p.d ≠ 0) := by
  obtain ⟨nm, t, d, r, v⟩ := p
  obtain ⟨h1, h2⟩ := h
  dsimp only at h1 h2
  cases v
  · rcases lt10 h2 with rfl | rfl | rfl | rfl | rfl | rfl | rfl | rfl | rfl | rfl <;> refine ⟨rfl, rfl, fun q => ⟨rfl, ?_⟩⟩ <;> first | (intro z; dsimp only at z; omega) | cases q
  · exact ⟨by unfold Pm.hasD dfP; dsimp only; rw [if_pos rfl, Bool.not_true, Bool.and_false]; rfl, rfl, fun q => by unfold Pm.hasD at q; dsimp only at q; rw [Bool.not_true, Bool.and_false] at q; cases q⟩
theorem ev_param_words {p : Pm} (hp : p.ok) (hn : p.nm.length ≤ 1) (o : Bool) (n : Nat) : (lv T (n + 5)).f 135859871294873586757690483 [p.q.par, .bool o] = some (.str (pW p o)) := by
  obtain ⟨hd1, hd2, hd3⟩ := isNot_df hp
  have ty := tyOK_E p.v hp.1 hp.2
  have at_ : attrD (foT T) p.q.par 1954115685 = some p.q.τ := by
    have e : attrD (foT T) p.q.par 1954115685 = if notTop p.q.τ then some p.q.τ else none := by kernel_rfl
    rw [e, show notTop p.q.τ = true from ty.top]; rfl
  have ad : attrD (foT T) p.q.par 28258988067220596 = some (dfP p.d p.v) := by
    have e : attrD (foT T) p.q.par 28258988067220596 = if notTop (dfP p.d p.v) then some (dfP p.d p.v) else none := by kernel_rfl
    rw [e, hd2]; rfl
  have ar : attrD (foT T) p.q.par 115944243488102 = some (.bool p.r) := by kernel_rfl
  have av : attrD (foT T) p.q.par 127482044175978041098660195 = some (.bool p.v) := by kernel_rfl
  have an : attrD (foT T) p.q.par 1851878757 = some (.str p.nm) := by kernel_rfl
  generalize hP : p.q.par = P at *
  refine lvf (n := n + 4) (fn := f_param_words) (by kernel_rfl) (ρ := [(482671223149, P), (127482043675799206742614380, .bool o)]) (by kernel_rfl) ?_
  refine b_next (s_asg (ev_pt (n := n + 2) ty (e_attr (e_var (by kernel_rfl)) at_) (.inl rfl)).ev) ?_
  refine b_next (s_aug (x := ptS p.q.τ) (n := 6) (y := ((rS p.r ++ vS p.v) ++ ⟨#[36]⟩) ++ p.nm) (by kernel_rfl) (EvS.cat (n := 5) (m := 1) (EvS.cat (n := 4) (m := 1) (EvS.cat (n := 1) (m := 3) (EvS.ite (e_attr (e_var (by kernel_rfl)) ar) (fun _ => .lit rfl) (fun _ => .lit rfl)) (EvS.ite (e_attr (e_var (by kernel_rfl)) av) (fun _ => .lit rfl) (fun _ => .lit rfl)) rfl) (.lit rfl) rfl) ⟨e_attr (e_var (by kernel_rfl)) an, hn⟩ rfl) ?_) ?_
  · have h1 := baseW_len hp hn
    unfold baseW at h1
    rw [Str.length_append] at h1
    omega
  · have cond : evE (lv T (n + 4)).f (lv T (n + 4)).m isiT (knT T) (foT T) (.and [.var 127482043675799206742614380, .cmp .IsNot (.attr (.var 482671223149) 28258988067220596) .none]) [(482671223149, P), (127482043675799206742614380, .bool o), (512970876019, .str (baseW p))] = some (.bool (o && p.hasD)) :=
      e_and2 (e_var (by kernel_rfl)) fun _ => e_cmp (e_attr (e_var (by kernel_rfl)) ad) e_none hd1
    cases hc : (o && p.hasD) with
    | false =>
      have : pW p o = baseW p := by unfold pW; rw [hc]; rfl
      rw [this]
      rw [hc] at cond
      exact b_next (s_iteF cond b_nil) (b_ret (s_ret (e_var (by kernel_rfl))))
    | true =>
      have : pW p o = baseW p ++ (sEq ++ dwS p.d) := by unfold pW; rw [hc]; rfl
      rw [this]
      rw [hc] at cond
      have hD := hd3 (by rw [Bool.and_eq_true] at hc; exact hc.2)
      rw [hD.1] at ad
      have dw := ev_dw hp.2 hD.2 n
      refine b_next (s_iteT cond (b_next (s_aug (x := baseW p) (n := 23) (y := sEq ++ dwS p.d) (by kernel_rfl) (EvS.cat (n := 3) (m := 20) (.lit rfl) (EvS.call (e_es1 (e_attr (e_var (by kernel_rfl)) ad) e_nil) dw.1 dw.2) rfl) (by have := baseW_len hp hn; omega)) b_nil)) (b_ret (s_ret (e_var (by kernel_rfl))))
end Mine
end

section
open PySem PySem.W PyProof.Rows PySem.Calls
set_option maxRecDepth 100000
namespace Mine

section
variable {Γ : Nat → List D → Option D} {Γm : Nat → D → List D → Option D} {isi : D → Nat → Option Bool} {kn : Nat → Bool} {fo : Nat → Nat → Bool}
variable {ρ : List (Nat × D)} {d x : D} {e : PE} {l : List PE} {ds : List D}
theorem e_meth {m : Nat} (h : evE Γ Γm isi kn fo e ρ = some x) (h1 : evEs Γ Γm isi kn fo l ρ = some ds) (h2 : Γm m x ds = some d) : evE Γ Γm isi kn fo (.meth e m l) ρ = some d := jD h (jL h1 h2)
theorem k_mapN {t : D → Option Bool} {f : D → Option D} {h : Nat → D} : ∀ l : List Nat, (∀ i ∈ l, t (.int i) = some true ∧ f (.int i) = some (h i)) → keepM t f (l.map fun (i : Nat) => .int i) = some (l.map h)
  | [], _ => rfl
  | i :: l, H => by
    have h1 := H i (List.mem_cons_self ..)
    have ih := k_mapN (t := t) (f := f) (h := h) l fun j hj => H j (List.mem_cons_of_mem _ hj)
    exact k_cons h1.1 h1.2 ih
end
theorem ev_len_l {l : List D} (h : l.length ≤ 1000) (n : Nat) : (lv T (n + 1)).f 7103854 [.lst l] = some (.int l.length) := by
  have e : (lv T (n + 1)).f 7103854 [.lst l] = if Nat.ble l.length 10000000 then some (.int l.length) else none := by kernel_rfl
  rw [e, if_pos (Nat.ble_eq_true_of_le (by omega))]
theorem ev_len_t {l : List D} (h : l.length ≤ 1000) (n : Nat) : (lv T (n + 1)).f 7103854 [.tup l] = some (.int l.length) := by
  have e : (lv T (n + 1)).f 7103854 [.tup l] = if Nat.ble l.length 10000000 then some (.int l.length) else none := by kernel_rfl
  rw [e, if_pos (Nat.ble_eq_true_of_le (by omega))]
theorem ev_rng (k n : Nat) : (lv T (n + 1)).f 491260897125 [.int k] = some (.rng k) := by kernel_rfl
theorem items_rng {k : Nat} (h : k ≤ 1000) : itemsD (.rng k) = some ((List.range k).map fun (i : Nat) => .int i) := by
  show (if Nat.ble k 1000 then some ((List.range k).map fun (i : Nat) => D.int i) else none) = _
  rw [if_pos (Nat.ble_eq_true_of_le h)]
theorem item_tup {l : List D} {k : Nat} {d : D} (hk : k < 100) (h : l[k]? = some d) : itemD (.tup l) (.int k) = some d := item_lst (l := l) hk h
theorem ge_int (i L : Nat) : cmpD .GtE (.int i) (.int L) = some (decide (i ≥ L)) := c_ge _ _

noncomputable def sComma : Str := ⟨#[44, 32]⟩
theorem strsD_map (g : Nat → Str) : ∀ l : List Nat, strsD (l.map fun i => .str (g i)) = some (l.map g)
  | [] => rfl
  | i :: l => by
    show (strsD (l.map fun i => D.str (g i))).map (g i :: ·) = _
    rw [strsD_map g l]; rfl
theorem join_len (sep : Str) (B : Nat) : ∀ ys : List Str, (∀ y ∈ ys, y.length ≤ B) → (Str.join sep ys).length ≤ ys.length * (B + sep.length)
  | [], _ => Nat.zero_le _
  | [y], h => by
    have := h y (List.mem_cons_self ..)
    show y.length ≤ 1 * (B + sep.length)
    omega
  | y :: z :: r, h => by
    have h1 := h y (List.mem_cons_self ..)
    have ih := join_len sep B (z :: r) fun w hw => h w (List.mem_cons_of_mem _ hw)
    have e : Str.join sep (y :: z :: r) = y ++ sep ++ Str.join sep (z :: r) := rfl
    rw [e, Str.length_append, Str.length_append]
    have : (y :: z :: r).length * (B + sep.length) = (z :: r).length * (B + sep.length) + (B + sep.length) := by rw [List.length_cons, Nat.succ_mul]
    omega
theorem ev_join {l : List Nat} {g : Nat → Str} (hl : l.length ≤ 3) (hB : ∀ i ∈ l, (g i).length ≤ 70) : joinD sComma (l.map fun i => .str (g i)) = some (.str (Txt.join sComma (l.map g))) ∧ (Txt.join sComma (l.map g)).length ≤ 216 := by
  have hB' : ∀ y ∈ l.map g, y.length ≤ 70 := fun y hy => by
    obtain ⟨i, hi, rfl⟩ := List.mem_map.mp hy
    exact hB i hi
  have h1 := StrLaws.sumLen_le (B := 70) _ hB'
  have h2 := join_len sComma 70 _ hB'
  have e : Txt.join sComma (l.map g) = Str.join sComma (l.map g) := StrLaws.glued_eq_join _ _
  have e2 : sComma.length = 2 := rfl
  rw [List.length_map] at h1 h2
  refine ⟨?_, ?_⟩
  · unfold joinD
    rw [strsD_map]
    dsimp only
    rw [if_pos (Nat.ble_eq_true_of_le ?_)]
    rw [List.length_map]
    rw [e2]
    omega
  · rw [e]
    rw [e2] at h2
    omega

noncomputable def clsP (c : Bool) : D := if c then clsP1 else clsP0
noncomputable def ownS (c : Bool) : Str := if c then ⟨#[80, 49]⟩ else ⟨#[80, 48]⟩
noncomputable def sColon2 : Str := ⟨#[58, 58]⟩
theorem ev_full_name {c c' rf st : Bool} {ps : List D} {ret fl : D} {vi : Str} (n : Nat) : (lv T (n + 1)).f 1890029152475426155877 [funcQ (nmS c) ps ret rf st vi fl (clsP c')] = some (.str ((ownS c' ++ sColon2) ++ nmS c)) := by
  cases c <;> cases c' <;> kernel_rfl
noncomputable def wAt (ps : List Pm) (L i : Nat) : Str := match ps[i]? with
  | some p => pW p (decide (i ≥ L))
  | none => ⟨#[]⟩
noncomputable def jW (ps : List Pm) (L : Nat) : Str := Txt.join sComma ((List.range ps.length).map (wAt ps L))
noncomputable def rW (τ : D) (w : Str) : Str := match τ with
  | .none => w
  | τ => (w ++ ⟨#[58, 32]⟩) ++ ttS τ
theorem rW_of {τ : D} (h : TtOK τ) (w : Str) : rW τ w = (w ++ ⟨#[58, 32]⟩) ++ ttS τ := by
  have := h.ne
  unfold rW
  split
  · exact absurd rfl this
  · rfl
noncomputable def headW (m : Md) (c : Bool) : Str := ((((if m.rf then ⟨#[38, 32]⟩ else ⟨#[]⟩) ++ ((ownS c ++ sColon2) ++ m.nm)) ++ ⟨#[40]⟩) ++ jW m.ps (reqQ m.qs)) ++ ⟨#[41]⟩
noncomputable def mW (m : Md) (c : Bool) : Str := rW (tyD m.t) (headW m c)
theorem ev_rt {ρ : List (Nat × D)} {te we : PE} {τ : D} {w : Str} (h : TyOK τ) {n : Nat} (ht : evE (lv T (n + 2)).f (lv T (n + 2)).m isiT (knT T) (foT T) te ρ = some τ) (hw : EvS (lv T (n + 2)).f (lv T (n + 2)).m isiT (knT T) (foT T) we ρ 300 w) {f : Nat} (hf : f = 2148572918086937966708 ∨ f = 495466423873881045027413247195767923) :
    EvS (lv T (n + 2)).f (lv T (n + 2)).m isiT (knT T) (foT T) (.ite (.cmp .Is te .none) we (.bin .Add (.bin .Add we (.str ⟨#[58, 32]⟩)) (.call f [te]))) ρ 400 (rW τ w) := by
  rcases h with rfl | h
  · exact EvS.ite (b := true) (x := w) (y := w) (e_cmp ht e_none rfl) (fun _ => ⟨hw.ev, Nat.le_trans hw.sh (by decide)⟩) (fun h => by cases h)
  · have := EvS.ite (Γm := (lv T (n + 2)).m) (kn := knT T) (fo := foT T) (isi := isiT) (b := false) (n := 342) (e1 := we) (x := w) (y := (w ++ ⟨#[58, 32]⟩) ++ ttS τ) (e_cmp (op := .Is) ht e_none h.isn) (fun h => by cases h) (fun _ => EvS.cat (n := 302) (m := 40) (EvS.cat (n := 300) (m := 2) hw (.lit rfl) rfl) (EvS.call (f := f) (e_es1 ht e_nil) (by rcases hf with rfl | rfl; exact h.e1 n; exact h.e2 n) h.len) rfl)
    rw [rW_of h]
    exact ⟨this.ev, Nat.le_trans this.sh (by decide)⟩
theorem nmS_len (c : Bool) : (nmS c).length ≤ 11 := by cases c <;> decide
theorem ownS_len (c : Bool) : (ownS c).length ≤ 2 := by cases c <;> decide
theorem wAt_len {ps : List Pm} (h : ∀ p ∈ ps, p.ok ∧ nmG p.nm) (L i : Nat) : (wAt ps L i).length ≤ 70 := by
  unfold wAt
  split
  · rename_i p hp
    have := h p (List.mem_of_getElem? hp)
    exact pW_len this.1 this.2.2
  · exact Nat.zero_le _
theorem ev_func_words {m : Md} (h : m.ok) {c : Bool} (hn : m.nm = nmS c) (c' : Bool) (n : Nat) : (lv T (n + 6)).f 483847604615661271278707 [m.func (clsP c')] = some (.str (mW m c')) := by
  have R := ev_required (nm := m.nm) (vi := visS m.vi) (ret := tyD m.t) (fl := flD m.ab m.fi) (k := clsP c') (rf := m.rf) (st := m.st) h.qs.1 h.qs.2.1 (n + 3)
  have FN := ev_full_name (c := c) (c' := c') (rf := m.rf) (st := m.st) (ps := m.qs.map Qm.par) (ret := tyD m.t) (fl := flD m.ab m.fi) (vi := visS m.vi) (n + 4)
  rw [← hn] at FN
  have ty := tyOK_R h.t
  have hlen : (m.qs.map Qm.par).length = m.ps.length := by simp [Md.qs]
  show (lv T (n + 6)).f 483847604615661271278707 [funcQ m.nm (m.qs.map Qm.par) (tyD m.t) m.rf m.st (visS m.vi) (flD m.ab m.fi) (clsP c')] = _
  have ap : attrD (foT T) (funcQ m.nm (m.qs.map Qm.par) (tyD m.t) m.rf m.st (visS m.vi) (flD m.ab m.fi) (clsP c')) 123563833126259 = some (.lst (m.qs.map Qm.par)) := by kernel_rfl
  have ar : attrD (foT T) (funcQ m.nm (m.qs.map Qm.par) (tyD m.t) m.rf m.st (visS m.vi) (flD m.ab m.fi) (clsP c')) 115944243488102 = some (.bool m.rf) := by kernel_rfl
  have at_ : attrD (foT T) (funcQ m.nm (m.qs.map Qm.par) (tyD m.t) m.rf m.st (visS m.vi) (flD m.ab m.fi) (clsP c')) 1954115685 = some (tyD m.t) := by
    have e : attrD (foT T) (funcQ m.nm (m.qs.map Qm.par) (tyD m.t) m.rf m.st (visS m.vi) (flD m.ab m.fi) (clsP c')) 1954115685 = if notTop (tyD m.t) then some (tyD m.t) else none := by kernel_rfl
    rw [e, ty.top]; rfl
  generalize hF : funcQ m.nm (m.qs.map Qm.par) (tyD m.t) m.rf m.st (visS m.vi) (flD m.ab m.fi) (clsP c') = F at *
  have LN := ev_len_l (l := m.qs.map Qm.par) (by have := h.len; rw [hlen]; omega) (n + 4)
  rw [hlen] at LN
  refine lvf (n := n + 5) (fn := f_func_words) (by kernel_rfl) (ρ := [(1718972003, F)]) (by kernel_rfl) ?_
  refine b_next (s_asg (e_call (e_es1 (e_var (by kernel_rfl)) e_nil) R)) ?_
  have hpar : ∀ i ∈ List.range m.ps.length, evTs (lv T (n + 5)).f (lv T (n + 5)).m isiT (knT T) (foT T) [] (put (put [(1718972003, F)] 465557353332 (.int (reqQ m.qs))) 105 (.int i)) = some true ∧
      evE (lv T (n + 5)).f (lv T (n + 5)).m isiT (knT T) (foT T) (.call 135859871294873586757690483 [.item (.attr (.var 1718972003) 123563833126259) (.var 105), .cmp .GtE (.var 105) (.var 465557353332)]) (put (put [(1718972003, F)] 465557353332 (.int (reqQ m.qs))) 105 (.int i)) = some (.str (wAt m.ps (reqQ m.qs) i)) := fun i hi => by
    have hi := List.mem_range.mp hi
    refine ⟨by kernel_rfl, ?_⟩
    have hp : m.ps[i]? = some m.ps[i] := List.getElem?_eq_getElem hi
    have hq : (m.qs.map Qm.par)[i]? = some m.ps[i].q.par := by simp [Md.qs, hp]
    have hok := h.ps m.ps[i] (List.getElem_mem hi)
    have ew : wAt m.ps (reqQ m.qs) i = pW m.ps[i] (decide (i ≥ reqQ m.qs)) := by unfold wAt; rw [hp]
    rw [ew]
    exact e_call (e_es1 (e_item (e_attr (e_var (by kernel_rfl)) ap) (e_var (by kernel_rfl)) (item_lst (by have := h.len; omega) hq)) (e_es1 (e_cmp (e_var (by kernel_rfl)) (e_var (by kernel_rfl)) (ge_int i _)) e_nil)) (ev_param_words hok.1 hok.2.2 _ n)
  have hl3 : (List.range m.ps.length).length ≤ 3 := by rw [List.length_range]; exact h.len
  refine b_next (s_asg (e_comp (src := .rng m.ps.length) (e_call (e_es1 (e_call (e_es1 (e_attr (e_var (by kernel_rfl)) ap) e_nil) LN) e_nil) (ev_rng _ (n + 4))) (items_rng (by have := h.len; omega)) (Nat.ble_eq_true_of_le (by rw [List.length_map]; omega)) (k_mapN (h := fun i => .str (wAt m.ps (reqQ m.qs) i)) _ hpar))) ?_
  have J := ev_join (l := List.range m.ps.length) (g := wAt m.ps (reqQ m.qs)) hl3 fun i _ => wAt_len h.ps _ _
  have hnl : m.nm.length ≤ 11 := by rw [hn]; exact nmS_len c
  have JE : ∀ ls, joinD sComma ls = some (.str (jW m.ps (reqQ m.qs))) → (lv T (n + 5)).m 1785686382 (.str sComma) [.lst ls] = some (.str (jW m.ps (reqQ m.qs))) := fun ls e => by
    have e2 : (lv T (n + 5)).m 1785686382 (.str sComma) [.lst ls] = joinD sComma ls := by kernel_rfl
    rw [e2, e]
  refine b_next (s_asg (d := .str (headW m c')) (EvS.cat (n := 235) (m := 1) (EvS.cat (n := 19) (m := 216) (EvS.cat (n := 18) (m := 1) (EvS.cat (n := 2) (m := 16) (EvS.ite (e_attr (e_var (by kernel_rfl)) ar) (fun _ => .lit rfl) (fun _ => .lit rfl)) (EvS.call (e_es1 (e_var (by kernel_rfl)) e_nil) FN ?_) rfl) (.lit rfl) rfl) ⟨e_meth (x := .str sComma) (by kernel_rfl) (e_es1 (e_var (by kernel_rfl)) e_nil) (JE _ J.1), J.2⟩ rfl) (.lit rfl) rfl).ev) ?_
  · rw [Str.length_append, Str.length_append]
    have := ownS_len c'
    have : sColon2.length = 2 := rfl
    omega
  · have hh : (headW m c').length ≤ 300 := by
      have e1 : (if m.rf then (⟨#[38, 32]⟩ : Str) else ⟨#[]⟩).length ≤ 2 := len_if (by decide) (by decide)
      have := ownS_len c'
      have : sColon2.length = 2 := rfl
      have : Str.length ⟨#[40]⟩ = 1 := rfl
      have : Str.length ⟨#[41]⟩ = 1 := rfl
      have : (jW m.ps (reqQ m.qs)).length ≤ 216 := J.2
      unfold headW
      simp only [Str.length_append]
      omega
    exact b_ret (s_ret (ev_rt (n := n + 3) ty (e_attr (e_var (by kernel_rfl)) at_) (.var (by kernel_rfl) hh) (.inl rfl)).ev)
end Mine
end

section
open PySem PySem.W PyProof.Rows PySem.Calls
set_option maxRecDepth 100000
namespace Mine

section
variable {Γ : Nat → List D → Option D} {Γm : Nat → D → List D → Option D} {isi : D → Nat → Option Bool} {kn : Nat → Bool} {fo : Nat → Nat → Bool} {Γk : Nat → List D → Option (List (Nat × D))} {Γu : Nat → Nat → List (Nat × D) → List D → Option (List (Nat × D))}
variable {p : PS} {r : List PS} {ρ ρ₁ : List (Nat × D)} {o o₁ : Option (Nat × D)} {d x y : D} {b c : Bool} {e e1 e2 t : PE} {l : List PE} {ds : List D}
theorem s_asgO {k : Nat} (hf : freeOf o k = true) (h : evE Γ Γm isi kn fo e ρ = some d) : evS Γ Γm isi kn fo Γk Γu (.asg k e) ρ o = some (.next (put ρ k d) o) := jB hf (jD (evP_e h) rfl)
theorem s_asg2O {n m : Nat} (hf : freeOf o n = true) (hf' : freeOf o m = true) (h : evE Γ Γm isi kn fo e ρ = some (.tup [x, y])) (hne : Nat.beq n m = false) : evS Γ Γm isi kn fo Γk Γu (.asg2 n m e) ρ o = some (.next (put (put ρ n x) m y) o) := jB (by rw [hf, hf', hne]; rfl) (jT2 (evP_e h) rfl)
theorem s_iteTO {a b : List PS} {z : Option Out} (h : evE Γ Γm isi kn fo t (wOwn ρ o) = some (.bool true)) (h2 : evB Γ Γm isi kn fo Γk Γu a ρ o = z) : evS Γ Γm isi kn fo Γk Γu (.ite t a b) ρ o = z := jT h h2
theorem s_iteFO {a b : List PS} {z : Option Out} (h : evE Γ Γm isi kn fo t (wOwn ρ o) = some (.bool false)) (h2 : evB Γ Γm isi kn fo Γk Γu b ρ o = z) : evS Γ Γm isi kn fo Γk Γu (.ite t a b) ρ o = z := jF h h2
theorem s_app {k : Nat} {ls : List D} (hl : ls.length ≤ 1000) (h : evE Γ Γm isi kn fo e ρ = some d) : evS Γ Γm isi kn fo Γk Γu (.app k e) ρ (some (k, .lst ls)) = some (.next ρ (some (k, .lst (ls ++ [d])))) := jB (by rw [Nat.beq_refl, Nat.ble_eq_true_of_le hl]; rfl) (jD h rfl)
theorem s_newl {k : Nat} (h : look ρ k = none) : evS Γ Γm isi kn fo Γk Γu (.newl k) ρ none = some (.next ρ (some (k, .lst []))) := jB (by rw [h]; rfl) rfl
theorem s_forO {x : Nat} {it : PE} {body : List PS} {src : D} {z : Option Out} (h : evE Γ Γm isi kn fo it ρ = some src) (hi : itemsD src = some ds) (hl : Nat.ble ds.length 1000 = true) (hz : forM (fun ρ o => evB Γ Γm isi kn fo Γk Γu body ρ o) x ds ρ o = z) :
    evS Γ Γm isi kn fo Γk Γu (.for x it body) ρ o = z := jD (evP_e h) (jL hi (jB hl hz))
theorem s_retO (h : evE Γ Γm isi kn fo e (wOwn ρ o) = some d) : evS Γ Γm isi kn fo Γk Γu (.ret e) ρ o = some (.ret d) := jD h rfl
/-- a value told with the own object's help -/
theorem s_asgX {k : Nat} (hf : freeOf o k = true) (h0 : evE Γ Γm isi kn fo e ρ = none) (h1 : ownFld fo e o = none) (h : evE Γ Γm isi kn fo e (wOwn ρ o) = some d) (hd : flat d = true) : evS Γ Γm isi kn fo Γk Γu (.asg k e) ρ o = some (.next (put ρ k d) o) := jB hf (jD (by simp only [evP, evX, h0, h1, h, hd, if_true]) rfl)
theorem e_binL {op : Operator} (h : evE Γ Γm isi kn fo e1 ρ = none) : evE Γ Γm isi kn fo (.bin op e1 e2) ρ = none := jDn fun x q => ns (q.symm.trans h)
theorem e_binR {op : Operator} (h : evE Γ Γm isi kn fo e2 ρ = none) : evE Γ Γm isi kn fo (.bin op e1 e2) ρ = none := jDn fun x _ => jDn fun x q => ns (q.symm.trans h)
theorem e_mget {ks : List MK} {kd dd z : D} {k dx : PE} (hv : evEs Γ Γm isi kn fo l ρ = some ds) (hk : evE Γ Γm isi kn fo k ρ = some kd) (hd : evE Γ Γm isi kn fo dx ρ = some dd) (h : (match mkOf kd with
        | some m => match getM ks ds m with
          | some r => some r
          | none => some dd
        | none => none) = some z) : evE Γ Γm isi kn fo (.mget ks l k dx) ρ = some z := jL hv (jD hk (jD hd h))
theorem look_w {k m : Nat} (h : Nat.beq k m = false) : look ((k, d) :: ρ) m = look ρ m := by
  show (match Nat.beq k m with | true => some d | false => look ρ m) = _
  rw [h]
theorem lk_put {n m : Nat} (h : m ≠ n) : look (put ρ n d) m = look ρ m := by rw [look_put, if_neg h]
end
/-- a loop that appends -/
theorem forM_app {bf : List (Nat × D) → Option (Nat × D) → Option Out} {x y : Nat} (hxy : Nat.beq y x = false) (Inv : List (Nat × D) → Prop) (w : Nat → D) : ∀ (is : List Nat) (ρ : List (Nat × D)) (l : List D), Inv ρ → l.length + is.length ≤ 100 →
    (∀ i ∈ is, ∀ ρ, Inv ρ → ∀ l : List D, l.length ≤ 100 → ∃ ρ', bf (put ρ x (.int i)) (some (y, .lst l)) = some (.next ρ' (some (y, .lst (l ++ [w i])))) ∧ Inv ρ') →
    ∃ ρ', forM bf x (is.map fun (i : Nat) => .int i) ρ (some (y, .lst l)) = some (.next ρ' (some (y, .lst (l ++ is.map w)))) ∧ Inv ρ'
  | [], ρ, l, hI, _, _ => ⟨ρ, by simp [forM], hI⟩
  | i :: is, ρ, l, hI, hl, h => by
    obtain ⟨ρ', h1, h2⟩ := h i (List.mem_cons_self ..) ρ hI l (by omega)
    obtain ⟨ρ'', h3, h4⟩ := forM_app hxy Inv w is ρ' (l ++ [w i]) h2 (by simp only [List.length_append, List.length_cons, List.length_nil] at hl ⊢; omega) fun j hj => h j (List.mem_cons_of_mem _ hj)
    refine ⟨ρ'', ?_, h4⟩
    have hf : freeOf (some (y, D.lst l)) x = true := by show (!(Nat.beq y x)) = true; rw [hxy]; rfl
    rw [List.map_cons]
    simp only [forM, hf, if_true, h1]
    rw [h3]
    simp

noncomputable def b_shown : List PS := [.asg 495673374574 (.mget [.str ⟨#[98, 105, 110]⟩, .str ⟨#[97, 114, 114, 97, 121]⟩, .str ⟨#[117, 110]⟩, .str ⟨#[99, 111, 110, 115, 116]⟩] [.str ⟨#[60, 101, 120, 112, 114, 101, 115, 115, 105, 111, 110, 62]⟩, .str ⟨#[91, 93]⟩, .str ⟨#[45, 53]⟩, .str ⟨#[71]⟩] (.item (.item (.var 482671223149) (.int 3)) (.int 0)) (.str ⟨#[]⟩)), .ite (.and [.cmp .Eq (.var 495673374574) (.str ⟨#[]⟩), .cmp .Is (.item (.item (.var 482671223149) (.int 3)) (.int 1)) (.bool true)]) [.asg 495673374574 (.str ⟨#[116, 114, 117, 101]⟩)] [], .ite (.cmp .Eq (.var 495673374574) (.str ⟨#[]⟩)) [.asg 495673374574 (.mget [.int 1, .none, .str ⟨#[116, 101, 110, 32, 115, 105, 103, 110, 115, 46]⟩] [.str ⟨#[49]⟩, .str ⟨#[110, 117, 108, 108]⟩, .str ⟨#[39, 116, 101, 110, 32, 115, 105, 103, 110, 115, 46, 39]⟩] (.item (.item (.var 482671223149) (.int 3)) (.int 1)) (.str ⟨#[39, 116, 119, 101, 108, 118, 101, 32, 115, 105, 103, 46, 46, 46, 39]⟩))] [], .asg 1885434484 (.bin .Add (.bin .Add (.var 1885434484) (.str ⟨#[32, 61, 32]⟩)) (.var 495673374574))]
theorem eq_str (a b : Str) : cmpD .Eq (.str a) (.str b) = some (a == b) := rfl

section
variable {ρ : List (Nat × D)} {l : List D} {nd δ : D} {a : Str} {n : Nat}
noncomputable def mA (kd : D) : Option D := match mkOf kd with
  | some m => match getM [.str ⟨#[98, 105, 110]⟩, .str ⟨#[97, 114, 114, 97, 121]⟩, .str ⟨#[117, 110]⟩, .str ⟨#[99, 111, 110, 115, 116]⟩] [.str ⟨#[60, 101, 120, 112, 114, 101, 115, 115, 105, 111, 110, 62]⟩, .str ⟨#[91, 93]⟩, .str ⟨#[45, 53]⟩, .str ⟨#[71]⟩] m with
    | some r => some r
    | none => some (.str ⟨#[]⟩)
  | none => none
noncomputable def mB (kd : D) : Option D := match mkOf kd with
  | some m => match getM [.int 1, .none, .str ⟨#[116, 101, 110, 32, 115, 105, 103, 110, 115, 46]⟩] [.str ⟨#[49]⟩, .str ⟨#[110, 117, 108, 108]⟩, .str ⟨#[39, 116, 101, 110, 32, 115, 105, 103, 110, 115, 46, 39]⟩] m with
    | some r => some r
    | none => some (.str ⟨#[39, 116, 119, 101, 108, 118, 101, 32, 115, 105, 103, 46, 46, 46, 39]⟩)
  | none => none
theorem shown_out {o : Option (Nat × D)} (ho : o = some (482671228019, .lst l)) {s : Str} (hs : s.length ≤ 20) (ha : a.length ≤ 100) {ρ' : List (Nat × D)} (h1 : look ρ' 1885434484 = some (.str a)) (h2 : look ρ' 495673374574 = some (.str s)) (hk : ∀ m, m ≠ 495673374574 → m ≠ 1885434484 → look ρ' m = look ρ m) :
    ∃ ρ'', evB (lv T n).f (lv T n).m isiT (knT T) (foT T) (lv T n).k (lv T n).u [.asg 1885434484 (.bin .Add (.bin .Add (.var 1885434484) (.str ⟨#[32, 61, 32]⟩)) (.var 495673374574))] ρ' o = some (.next ρ'' o) ∧ look ρ'' 1885434484 = some (.str ((a ++ sEq) ++ s)) ∧ ∀ m, m ≠ 495673374574 → m ≠ 1885434484 → look ρ'' m = look ρ m := by
  subst ho
  exact ⟨_, b_next (s_asgO rfl (EvS.cat (n := 103) (m := 20) (EvS.cat (n := 100) (m := 3) (.var h1 ha) (.lit rfl) rfl) (.var h2 hs) rfl).ev) b_nil, lk_eq, fun m e1 e2 => by rw [lk_put e2]; exact hk m e1 e2⟩
theorem shownX {o : Option (Nat × D)} (ho : o = some (482671228019, .lst l)) (hp : look ρ 482671223149 = some nd) (h3 : itemD nd (.int 3) = some δ) (hpart : look ρ 1885434484 = some (.str a)) (ha : a.length ≤ 100) {kd : D} {s : Str} (hk : itemD δ (.int 0) = some kd) (hm : mA kd = some (.str s)) (hs : (s == ⟨#[]⟩) = false) (hl : s.length ≤ 20) :
    ∃ ρ', evB (lv T n).f (lv T n).m isiT (knT T) (foT T) (lv T n).k (lv T n).u b_shown ρ o = some (.next ρ' o) ∧ look ρ' 1885434484 = some (.str ((a ++ sEq) ++ s)) ∧ ∀ m, m ≠ 495673374574 → m ≠ 1885434484 → look ρ' m = look ρ m := by
  obtain ⟨ρ', h1, h2⟩ := shown_out (n := n) (ρ := ρ) ho hl ha (ρ' := put ρ 495673374574 (.str s)) (lk_ne (by rfl) hpart) lk_eq fun m e1 _ => lk_put e1
  refine ⟨ρ', ?_, h2⟩
  subst ho
  refine b_next (s_asgO rfl (e_mget (kd := kd) (dd := .str ⟨#[]⟩) (ds := [.str ⟨#[60, 101, 120, 112, 114, 101, 115, 115, 105, 111, 110, 62]⟩, .str ⟨#[91, 93]⟩, .str ⟨#[45, 53]⟩, .str ⟨#[71]⟩]) (by kernel_rfl) (e_item (e_item (e_var hp) e_int h3) e_int hk) e_str hm)) ?_
  have lw : look (wOwn (put ρ 495673374574 (.str s)) (some (482671228019, .lst l))) 495673374574 = some (.str s) := (look_w (by rfl)).trans lk_eq
  have c : evE (lv T n).f (lv T n).m isiT (knT T) (foT T) (.cmp .Eq (.var 495673374574) (.str ⟨#[]⟩)) (wOwn (put ρ 495673374574 (.str s)) (some (482671228019, .lst l))) = some (.bool false) := e_cmp (e_var lw) e_str (by rw [eq_str, hs])
  exact b_next (s_iteFO (e_and2 (b := false) (c := false) c fun h => by cases h) b_nil) (b_next (s_iteFO c b_nil) h1)
theorem shownY {o : Option (Nat × D)} (ho : o = some (482671228019, .lst l)) (hp : look ρ 482671223149 = some nd) (h3 : itemD nd (.int 3) = some δ) (hpart : look ρ 1885434484 = some (.str a)) (ha : a.length ≤ 100) {kd : D} (hk : itemD δ (.int 0) = some kd) (hm : mA kd = some (.str ⟨#[]⟩)) (hk1 : itemD δ (.int 1) = some (.bool true)) :
    ∃ ρ', evB (lv T n).f (lv T n).m isiT (knT T) (foT T) (lv T n).k (lv T n).u b_shown ρ o = some (.next ρ' o) ∧ look ρ' 1885434484 = some (.str ((a ++ sEq) ++ ⟨#[116, 114, 117, 101]⟩)) ∧ ∀ m, m ≠ 495673374574 → m ≠ 1885434484 → look ρ' m = look ρ m := by
  obtain ⟨ρ', h1, h2⟩ := shown_out (n := n) (ρ := ρ) ho (s := ⟨#[116, 114, 117, 101]⟩) (by decide) ha (ρ' := put (put ρ 495673374574 (.str ⟨#[]⟩)) 495673374574 (.str ⟨#[116, 114, 117, 101]⟩)) (lk_ne (by rfl) (lk_ne (by rfl) hpart)) lk_eq fun m e1 _ => (lk_put e1).trans (lk_put e1)
  refine ⟨ρ', ?_, h2⟩
  subst ho
  refine b_next (s_asgO rfl (e_mget (kd := kd) (dd := .str ⟨#[]⟩) (ds := [.str ⟨#[60, 101, 120, 112, 114, 101, 115, 115, 105, 111, 110, 62]⟩, .str ⟨#[91, 93]⟩, .str ⟨#[45, 53]⟩, .str ⟨#[71]⟩]) (by kernel_rfl) (e_item (e_item (e_var hp) e_int h3) e_int hk) e_str hm)) ?_
  have lw : look (wOwn (put ρ 495673374574 (.str ⟨#[]⟩)) (some (482671228019, .lst l))) 495673374574 = some (.str ⟨#[]⟩) := (look_w (by rfl)).trans lk_eq
  have lp : look (wOwn (put ρ 495673374574 (.str ⟨#[]⟩)) (some (482671228019, .lst l))) 482671223149 = some nd := (look_w (by rfl)).trans (lk_ne (by rfl) hp)
  refine b_next (s_iteTO (e_and2 (b := true) (c := true) (e_cmp (e_var lw) e_str (by kernel_rfl)) fun _ => e_cmp (e_item (e_item (e_var lp) e_int h3) e_int hk1) e_bool (by kernel_rfl)) (b_next (s_asgO rfl e_str) b_nil)) ?_
  refine b_next (s_iteFO (e_cmp (x := .str ⟨#[116, 114, 117, 101]⟩) (y := .str ⟨#[]⟩) (e_var ((look_w (by rfl)).trans lk_eq)) e_str (by kernel_rfl)) b_nil) h1
theorem shownZ {o : Option (Nat × D)} (ho : o = some (482671228019, .lst l)) (hp : look ρ 482671223149 = some nd) (h3 : itemD nd (.int 3) = some δ) (hpart : look ρ 1885434484 = some (.str a)) (ha : a.length ≤ 100) {kd vd : D} (hk : itemD δ (.int 0) = some kd) (hm : mA kd = some (.str ⟨#[]⟩)) (hk1 : itemD δ (.int 1) = some vd) (hv : isD vd (.bool true) = some false) {s : Str} (hm2 : mB vd = some (.str s)) (hl : s.length ≤ 20) :
    ∃ ρ', evB (lv T n).f (lv T n).m isiT (knT T) (foT T) (lv T n).k (lv T n).u b_shown ρ o = some (.next ρ' o) ∧ look ρ' 1885434484 = some (.str ((a ++ sEq) ++ s)) ∧ ∀ m, m ≠ 495673374574 → m ≠ 1885434484 → look ρ' m = look ρ m := by
  obtain ⟨ρ', h1, h2⟩ := shown_out (n := n) (ρ := ρ) ho hl ha (ρ' := put (put ρ 495673374574 (.str ⟨#[]⟩)) 495673374574 (.str s)) (lk_ne (by rfl) (lk_ne (by rfl) hpart)) lk_eq fun m e1 _ => (lk_put e1).trans (lk_put e1)
  refine ⟨ρ', ?_, h2⟩
  subst ho
  refine b_next (s_asgO rfl (e_mget (kd := kd) (dd := .str ⟨#[]⟩) (ds := [.str ⟨#[60, 101, 120, 112, 114, 101, 115, 115, 105, 111, 110, 62]⟩, .str ⟨#[91, 93]⟩, .str ⟨#[45, 53]⟩, .str ⟨#[71]⟩]) (by kernel_rfl) (e_item (e_item (e_var hp) e_int h3) e_int hk) e_str hm)) ?_
  have lw : look (wOwn (put ρ 495673374574 (.str ⟨#[]⟩)) (some (482671228019, .lst l))) 495673374574 = some (.str ⟨#[]⟩) := (look_w (by rfl)).trans lk_eq
  have lp : look (wOwn (put ρ 495673374574 (.str ⟨#[]⟩)) (some (482671228019, .lst l))) 482671223149 = some nd := (look_w (by rfl)).trans (lk_ne (by rfl) hp)
  refine b_next (s_iteFO (e_and2 (b := true) (c := false) (e_cmp (e_var lw) e_str (by kernel_rfl)) fun _ => e_cmp (e_item (e_item (e_var lp) e_int h3) e_int hk1) e_bool hv) b_nil) ?_
  refine b_next (s_iteTO (e_cmp (e_var lw) e_str (by kernel_rfl)) (b_next (s_asgO rfl (e_mget (kd := vd) (dd := .str ⟨#[39, 116, 119, 101, 108, 118, 101, 32, 115, 105, 103, 46, 46, 46, 39]⟩) (ds := [.str ⟨#[49]⟩, .str ⟨#[110, 117, 108, 108]⟩, .str ⟨#[39, 116, 101, 110, 32, 115, 105, 103, 110, 115, 46, 39]⟩]) (by kernel_rfl) (e_item (e_item (e_var (lk_ne (by rfl) hp)) e_int h3) e_int hk1) e_str hm2)) b_nil)) h1
theorem dwS_1 : dwS 1 = ⟨#[49]⟩ := by kernel_rfl
theorem dwS_2 : dwS 2 = ⟨#[110, 117, 108, 108]⟩ := by kernel_rfl
theorem dwS_3 : dwS 3 = ⟨#[39, 116, 119, 101, 108, 118, 101, 32, 115, 105, 103, 46, 46, 46, 39]⟩ := by kernel_rfl
theorem dwS_4 : dwS 4 = ⟨#[60, 101, 120, 112, 114, 101, 115, 115, 105, 111, 110, 62]⟩ := by kernel_rfl
theorem dwS_5 : dwS 5 = ⟨#[116, 114, 117, 101]⟩ := by kernel_rfl
theorem dwS_6 : dwS 6 = ⟨#[39, 116, 101, 110, 32, 115, 105, 103, 110, 115, 46, 39]⟩ := by kernel_rfl
theorem dwS_7 : dwS 7 = ⟨#[91, 93]⟩ := by kernel_rfl
theorem dwS_8 : dwS 8 = ⟨#[45, 53]⟩ := by kernel_rfl
theorem dwS_9 : dwS 9 = ⟨#[71]⟩ := by kernel_rfl
theorem law_shown {o : Option (Nat × D)} (ho : o = some (482671228019, .lst l)) (hp : look ρ 482671223149 = some nd) {d : Nat} (h : d < 10) (h0 : d ≠ 0) (h3 : itemD nd (.int 3) = some (dfD d)) (hpart : look ρ 1885434484 = some (.str a)) (ha : a.length ≤ 100) :
    ∃ ρ', evB (lv T n).f (lv T n).m isiT (knT T) (foT T) (lv T n).k (lv T n).u b_shown ρ o = some (.next ρ' o) ∧ look ρ' 1885434484 = some (.str ((a ++ sEq) ++ dwS d)) ∧ ∀ m, m ≠ 495673374574 → m ≠ 1885434484 → look ρ' m = look ρ m := by
  rcases lt10 h with rfl | rfl | rfl | rfl | rfl | rfl | rfl | rfl | rfl | rfl
  · exact absurd rfl h0
  · rw [dwS_1]; exact shownZ ho hp h3 hpart ha (kd := wLit) (vd := .int 1) (by kernel_rfl) (by kernel_rfl) (by kernel_rfl) (by kernel_rfl) (by kernel_rfl) (by decide)
  · rw [dwS_2]; exact shownZ ho hp h3 hpart ha (kd := wLit) (vd := .none) (by kernel_rfl) (by kernel_rfl) (by kernel_rfl) (by kernel_rfl) (by kernel_rfl) (by decide)
  · rw [dwS_3]; exact shownZ ho hp h3 hpart ha (kd := wLit) (vd := .str ⟨#[116, 119, 101, 108, 118, 101, 32, 115, 105, 103, 110, 115]⟩) (by kernel_rfl) (by kernel_rfl) (by kernel_rfl) (by kernel_rfl) (by kernel_rfl) (by decide)
  · rw [dwS_4]; exact shownX ho hp h3 hpart ha (kd := .str ⟨#[98, 105, 110]⟩) (by kernel_rfl) (by kernel_rfl) (by kernel_rfl) (by decide)
  · rw [dwS_5]; exact shownY ho hp h3 hpart ha (kd := wLit) (by kernel_rfl) (by kernel_rfl) (by kernel_rfl)
  · rw [dwS_6]; exact shownZ ho hp h3 hpart ha (kd := wLit) (vd := .str ⟨#[116, 101, 110, 32, 115, 105, 103, 110, 115, 46]⟩) (by kernel_rfl) (by kernel_rfl) (by kernel_rfl) (by kernel_rfl) (by kernel_rfl) (by decide)
  · rw [dwS_7]; exact shownX ho hp h3 hpart ha (kd := .str ⟨#[97, 114, 114, 97, 121]⟩) (by kernel_rfl) (by kernel_rfl) (by kernel_rfl) (by decide)
  · rw [dwS_8]; exact shownX ho hp h3 hpart ha (kd := .str ⟨#[117, 110]⟩) (by kernel_rfl) (by kernel_rfl) (by kernel_rfl) (by decide)
  · rw [dwS_9]; exact shownX ho hp h3 hpart ha (kd := .str ⟨#[99, 111, 110, 115, 116]⟩) (by kernel_rfl) (by kernel_rfl) (by kernel_rfl) (by decide)
end
end Mine
end

section
open PySem PySem.W PyProof.Rows PySem.Calls
set_option maxRecDepth 100000
namespace Mine
theorem jLn {β : Type} {o : Option (List D)} {f : List D → Option β} (h : o = none) : (match (generalizing := false) o with | some x => f x | none => none) = none := by subst h; rfl
theorem e_methN {Γ : Nat → List D → Option D} {Γm : Nat → D → List D → Option D} {isi : D → Nat → Option Bool} {kn : Nat → Bool} {fo : Nat → Nat → Bool} {ρ : List (Nat × D)} {e : PE} {m : Nat} {l : List PE} (h : evEs Γ Γm isi kn fo l ρ = none) : evE Γ Γm isi kn fo (.meth e m l) ρ = none := jDn fun x _ => jLn h

theorem law_iter {ps : List Pm} (ok : ∀ p ∈ ps, p.ok ∧ nmG p.nm) (hlen : ps.length ≤ 3) {i L : Nat} (hi : i < ps.length) {N : D} {n : Nat} (hN : itemD N (.int 2) = some (.tup (ps.map fun p => p.q.node))) (hL : (lv T (n + 2)).f 450624087419639996445556 [N] = some (.int L))
    {ρ : List (Nat × D)} (l1 : look ρ 1852793957 = some N) {l : List D} (hl : l.length ≤ 100) :
    ∃ ρ', evB (lv T (n + 2)).f (lv T (n + 2)).m isiT (knT T) (foT T) (lv T (n + 2)).k (lv T (n + 2)).u b__law_words_0 (put ρ 107 (.int i)) (some (482671228019, .lst l)) = some (.next ρ' (some (482671228019, .lst (l ++ [.str (wAt ps L i)])))) ∧ look ρ' 1852793957 = look ρ 1852793957 ∧ look ρ' 478745093490 = look ρ 478745093490 ∧ look ρ' 482671228019 = look ρ 482671228019 := by
  have hp : ps[i]? = some ps[i] := List.getElem?_eq_getElem hi
  have hok := ok ps[i] (List.getElem_mem hi)
  have ew : wAt ps L i = pW ps[i] (decide (i ≥ L)) := by unfold wAt; rw [hp]
  have hq : (ps.map fun p => p.q.node)[i]? = some ps[i].q.node := by simp [hp]
  rw [ew]
  generalize ps[i] = p at *
  have ho := ev_own hok.1 (n + 1)
  have ty := tyOK_E p.v hok.1.1 hok.1.2
  obtain ⟨hd1, hd2, hd3⟩ := isNot_df hok.1
  have n1 : itemD p.q.node (.int 1) = some (.str p.nm) := by kernel_rfl
  have n3 : itemD p.q.node (.int 3) = some (dfP p.d p.v) := by kernel_rfl
  have n4 : itemD p.q.node (.int 4) = some (.bool p.r) := by kernel_rfl
  have n5 : itemD p.q.node (.int 5) = some (.bool p.v) := by kernel_rfl
  generalize hP : p.q.node = P at *
  have hit : ∀ ρ : List (Nat × D), look ρ 1852793957 = some N → look ρ 107 = some (.int i) → evE (lv T (n + 2)).f (lv T (n + 2)).m isiT (knT T) (foT T) (.item (.item (.var 1852793957) (.int 2)) (.var 107)) ρ = some P := fun ρ h1 h2 =>
    e_item (e_item (e_var h1) e_int hN) (e_var h2) (item_tup (by omega) hq)
  have L1 : look (put ρ 107 (.int i)) 1852793957 = some N := lk_ne (by rfl) l1
  have L2 : look (put ρ 107 (.int i)) 107 = some (.int i) := lk_eq
  have k0 : look (put ρ 107 (.int i)) 478745093490 = look ρ 478745093490 := lk_put (by decide)
  have k0' : look (put ρ 107 (.int i)) 482671228019 = look ρ 482671228019 := lk_put (by decide)
  have k0'' : look (put ρ 107 (.int i)) 1852793957 = look ρ 1852793957 := lk_put (by decide)
  generalize put ρ 107 (.int i) = ρ0 at *
  -- param, names
  have st1 : evS (lv T (n + 2)).f (lv T (n + 2)).m isiT (knT T) (foT T) (lv T (n + 2)).k (lv T (n + 2)).u (.asg2 482671223149 474080961907 (.tup [.item (.item (.var 1852793957) (.int 2)) (.var 107), .call 7560217649442404116145779601509 [.item (.item (.var 1852793957) (.int 2)) (.var 107)]])) ρ0 (some (482671228019, .lst l)) = some (.next (put (put ρ0 482671223149 P) 474080961907 p.q.τ) (some (482671228019, .lst l))) :=
    s_asg2O rfl rfl (e_tup (e_es1 (hit _ L1 L2) (e_es1 (e_call (e_es1 (hit _ L1 L2) e_nil) ho) e_nil)) rfl) rfl
  have M1 : look (put (put ρ0 482671223149 P) 474080961907 p.q.τ) 482671223149 = some P := lk_ne (by rfl) lk_eq
  have M2 : look (put (put ρ0 482671223149 P) 474080961907 p.q.τ) 474080961907 = some p.q.τ := lk_eq
  have M3 : ∀ m, m ≠ 482671223149 → m ≠ 474080961907 → look (put (put ρ0 482671223149 P) 474080961907 p.q.τ) m = look ρ0 m := fun m e1 e2 => (lk_put e2).trans (lk_put e1)
  generalize put (put ρ0 482671223149 P) 474080961907 p.q.τ = ρ1 at *
  -- part
  have hb := baseW_len hok.1 hok.2.2
  have B1 := ev_pt (ρ := ρ1) (te := .var 474080961907) (n := n) ty (e_var M2) (f := 495466423873881045027413247195767923) (.inr rfl)
  have st2 := s_asgO (Γk := (lv T (n + 2)).k) (Γu := (lv T (n + 2)).u) (k := 1885434484) (o := some (482671228019, .lst l)) rfl B1.ev
  have Q1 : look (put ρ1 1885434484 (.str (ptS p.q.τ))) 482671223149 = some P := lk_ne (by rfl) M1
  have Q2 : look (put ρ1 1885434484 (.str (ptS p.q.τ))) 1885434484 = some (.str (ptS p.q.τ)) := lk_eq
  have Q3 : ∀ m, m ≠ 482671223149 → m ≠ 474080961907 → m ≠ 1885434484 → look (put ρ1 1885434484 (.str (ptS p.q.τ))) m = look ρ0 m := fun m e1 e2 e3 => (lk_put e3).trans (M3 m e1 e2)
  have st2' : evS (lv T (n + 2)).f (lv T (n + 2)).m isiT (knT T) (foT T) (lv T (n + 2)).k (lv T (n + 2)).u (.asg 1885434484 (.ite (.cmp .Is (.var 474080961907) .none) (.str ⟨#[]⟩) (.bin .Add (.call 495466423873881045027413247195767923 [.var 474080961907]) (.str ⟨#[32]⟩)))) ρ1 (some (482671228019, .lst l)) = some (.next (put ρ1 1885434484 (.str (ptS p.q.τ))) (some (482671228019, .lst l))) := st2
  have hpt : (ptS p.q.τ).length ≤ 41 := B1.sh
  generalize put ρ1 1885434484 (.str (ptS p.q.τ)) = ρ2 at *
  have hbase : (((ptS p.q.τ ++ rS p.r) ++ vS p.v) ++ ⟨#[36]⟩) ++ p.nm = baseW p := by unfold baseW; simp only [Str.append_assoc]
  have B2 : EvS (lv T (n + 2)).f (lv T (n + 2)).m isiT (knT T) (foT T) (.bin .Add (.bin .Add (.bin .Add (.bin .Add (.var 1885434484) (.ite (.item (.var 482671223149) (.int 4)) (.str ⟨#[38]⟩) (.str ⟨#[]⟩))) (.ite (.item (.var 482671223149) (.int 5)) (.str ⟨#[46, 46, 46]⟩) (.str ⟨#[]⟩))) (.str ⟨#[36]⟩)) (.item (.var 482671223149) (.int 1))) ρ2 47 (baseW p) := by
    rw [← hbase]
    exact EvS.cat (n := 46) (m := 1) (EvS.cat (n := 45) (m := 1) (EvS.cat (n := 42) (m := 3) (EvS.cat (n := 41) (m := 1) (.var Q2 hpt) (EvS.ite (e_item (e_var Q1) e_int n4) (fun _ => .lit rfl) (fun _ => .lit rfl)) rfl) (EvS.ite (e_item (e_var Q1) e_int n5) (fun _ => .lit rfl) (fun _ => .lit rfl)) rfl) (.lit rfl) rfl) ⟨e_item (e_var Q1) e_int n1, hok.2.2⟩ rfl
  have st3 := s_asgO (Γk := (lv T (n + 2)).k) (Γu := (lv T (n + 2)).u) (k := 1885434484) (o := some (482671228019, .lst l)) rfl B2.ev
  have R1 : look (put ρ2 1885434484 (.str (baseW p))) 482671223149 = some P := lk_ne (by rfl) Q1
  have R2 : look (put ρ2 1885434484 (.str (baseW p))) 1885434484 = some (.str (baseW p)) := lk_eq
  have R3 : ∀ m, m ≠ 482671223149 → m ≠ 474080961907 → m ≠ 1885434484 → look (put ρ2 1885434484 (.str (baseW p))) m = look ρ0 m := fun m e1 e2 e3 => (lk_put e3).trans (Q3 m e1 e2 e3)
  generalize put ρ2 1885434484 (.str (baseW p)) = ρ3 at *
  have W : ∀ m, Nat.beq 482671228019 m = false → look (wOwn ρ3 (some (482671228019, .lst l))) m = look ρ3 m := fun m h => look_w h
  have cond : evE (lv T (n + 2)).f (lv T (n + 2)).m isiT (knT T) (foT T) (.and [.cmp .IsNot (.item (.var 482671223149) (.int 3)) .none, .cmp .GtE (.var 107) (.call 450624087419639996445556 [.var 1852793957])]) (wOwn ρ3 (some (482671228019, .lst l))) = some (.bool (p.hasD && decide (i ≥ L))) :=
    e_and2 (e_cmp (e_item (e_var ((W _ (by rfl)).trans R1)) e_int n3) e_none hd1) fun _ => e_cmp (e_var ((W _ (by rfl)).trans ((R3 _ (by decide) (by decide) (by decide)).trans L2))) (e_call (e_es1 (e_var ((W _ (by rfl)).trans ((R3 _ (by decide) (by decide) (by decide)).trans L1))) e_nil) hL) (ge_int i L)
  cases hc : (p.hasD && decide (i ≥ L)) with
  | false =>
    rw [hc] at cond
    have e : pW p (decide (i ≥ L)) = baseW p := by unfold pW; rw [Bool.and_comm, hc]; rfl
    rw [e]
    refine ⟨ρ3, b_next st1 (b_next st2' (b_next st3 (b_next (s_iteFO cond b_nil) (b_next (s_app (by omega) (e_var R2)) b_nil)))), ?_, ?_, ?_⟩
    · rw [R3 _ (by decide) (by decide) (by decide), k0'']
    · rw [R3 _ (by decide) (by decide) (by decide), k0]
    · rw [R3 _ (by decide) (by decide) (by decide), k0']
  | true =>
    rw [hc] at cond
    have e : pW p (decide (i ≥ L)) = (baseW p ++ sEq) ++ dwS p.d := by unfold pW; rw [Bool.and_comm, hc, Str.append_assoc]; rfl
    rw [e]
    obtain ⟨f1, f2⟩ := hd3 (by rw [Bool.and_eq_true] at hc; exact hc.1)
    rw [f1] at n3
    obtain ⟨ρ4, g1, g2, g3⟩ := law_shown (n := n + 2) (o := some (482671228019, .lst l)) rfl R1 hok.1.2 f2 n3 R2 (by omega)
    refine ⟨ρ4, b_next st1 (b_next st2' (b_next st3 (b_next (s_iteTO cond g1) (b_next (s_app (by omega) (e_var g2)) b_nil)))), ?_, ?_, ?_⟩
    · rw [g3 _ (by decide) (by decide), R3 _ (by decide) (by decide) (by decide), k0'']
    · rw [g3 _ (by decide) (by decide), R3 _ (by decide) (by decide) (by decide), k0]
    · rw [g3 _ (by decide) (by decide), R3 _ (by decide) (by decide) (by decide), k0']

theorem ev_law_words {m : Md} (h : m.ok) {c : Bool} (hn : m.nm = nmS c) (c' : Bool) (n : Nat) : (lv T (n + 3)).f 450624087419687409968243 [m.node, .str (ownS c')] = some (.str (mW m c')) := by
  have R := ev_least (nm := m.nm) (ret := tyD m.t) (rf := m.rf) h.qs.1 h.qs.2.1 n
  have hnl : m.nm.length ≤ 11 := by rw [hn]; exact nmS_len c
  have eq : m.qs.map Qm.node = m.ps.map fun p => p.q.node := by simp [Md.qs, List.map_map, Function.comp_def]
  have hN2 : itemD (methQ m.nm (m.qs.map Qm.node) (tyD m.t) m.rf) (.int 2) = some (.tup (m.ps.map fun p => p.q.node)) := by rw [← eq]; kernel_rfl
  have hN1 : itemD (methQ m.nm (m.qs.map Qm.node) (tyD m.t) m.rf) (.int 1) = some (.str m.nm) := by kernel_rfl
  have hN3 : itemD (methQ m.nm (m.qs.map Qm.node) (tyD m.t) m.rf) (.int 3) = some (tyD m.t) := by kernel_rfl
  have hN5 : itemD (methQ m.nm (m.qs.map Qm.node) (tyD m.t) m.rf) (.int 5) = some (.bool m.rf) := by kernel_rfl
  show (lv T (n + 3)).f 450624087419687409968243 [methQ m.nm (m.qs.map Qm.node) (tyD m.t) m.rf, .str (ownS c')] = _
  generalize methQ m.nm (m.qs.map Qm.node) (tyD m.t) m.rf = N at *
  have LN := ev_len_t (l := m.ps.map fun p => p.q.node) (by have := h.len; rw [List.length_map]; omega) (n + 1)
  rw [List.length_map] at LN
  refine lvf (n := n + 2) (fn := f__law_words) (by kernel_rfl) (ρ := [(1852793957, N), (478745093490, .str (ownS c'))]) (by kernel_rfl) ?_
  refine b_next (s_newl (by kernel_rfl)) ?_
  obtain ⟨ρ1, h1, i1, i2, i3⟩ := forM_app (bf := fun ρ o => evB (lv T (n + 2)).f (lv T (n + 2)).m isiT (knT T) (foT T) (lv T (n + 2)).k (lv T (n + 2)).u b__law_words_0 ρ o) (x := 107) (y := 482671228019) (by rfl) (fun ρ => look ρ 1852793957 = some N ∧ look ρ 478745093490 = some (.str (ownS c')) ∧ look ρ 482671228019 = none)
    (fun i => .str (wAt m.ps (reqQ m.qs) i)) (List.range m.ps.length) [(1852793957, N), (478745093490, .str (ownS c'))] [] ⟨by kernel_rfl, by kernel_rfl, by kernel_rfl⟩ (by rw [List.length_range]; have := h.len; simp only [List.length_nil]; omega) fun i hi ρ I l hl => by
      obtain ⟨ρ', j1, j2, j3, j4⟩ := law_iter h.ps h.len (List.mem_range.mp hi) hN2 R I.1 hl
      exact ⟨ρ', j1, j2.trans I.1, j3.trans I.2.1, j4.trans I.2.2⟩
  have hl3 : (List.range m.ps.length).length ≤ 3 := by rw [List.length_range]; exact h.len
  refine b_next (s_forO (src := .rng m.ps.length) (e_call (e_es1 (e_call (e_es1 (e_item (e_var (by kernel_rfl)) e_int hN2) e_nil) LN) e_nil) (ev_rng _ (n + 1))) (items_rng (by have := h.len; omega)) (Nat.ble_eq_true_of_le (by rw [List.length_map]; omega)) h1) ?_
  rw [List.nil_append]
  have J := ev_join (l := List.range m.ps.length) (g := wAt m.ps (reqQ m.qs)) hl3 fun i _ => wAt_len h.ps _ _
  have JE : ∀ ls, joinD sComma ls = some (.str (jW m.ps (reqQ m.qs))) → (lv T (n + 2)).m 1785686382 (.str sComma) [.lst ls] = some (.str (jW m.ps (reqQ m.qs))) := fun ls e => by
    have e2 : (lv T (n + 2)).m 1785686382 (.str sComma) [.lst ls] = joinD sComma ls := by kernel_rfl
    rw [e2, e]
  generalize hls : (List.range m.ps.length).map (fun i => D.str (wAt m.ps (reqQ m.qs) i)) = ls at *
  have W1 : ∀ (ρ : List (Nat × D)) m, Nat.beq 482671228019 m = false → look (wOwn ρ (some (482671228019, .lst ls))) m = look ρ m := fun ρ m h => look_w h
  have W2 : ∀ (ρ : List (Nat × D)), look (wOwn ρ (some (482671228019, .lst ls))) 482671228019 = some (.lst ls) := fun ρ => by
    show look ((482671228019, D.lst ls) :: ρ) 482671228019 = _
    rw [look_c, if_pos rfl]
  have hhead : (((((((if m.rf then (⟨#[38, 32]⟩ : Str) else ⟨#[]⟩) ++ ownS c') ++ sColon2) ++ m.nm) ++ ⟨#[40]⟩) ++ jW m.ps (reqQ m.qs)) ++ ⟨#[41]⟩) = headW m c' := by unfold headW; simp only [Str.append_assoc]
  have HW : EvS (lv T (n + 2)).f (lv T (n + 2)).m isiT (knT T) (foT T) (.bin .Add (.bin .Add (.bin .Add (.bin .Add (.bin .Add (.bin .Add (.ite (.item (.var 1852793957) (.int 5)) (.str ⟨#[38, 32]⟩) (.str ⟨#[]⟩)) (.var 478745093490)) (.str ⟨#[58, 58]⟩)) (.item (.var 1852793957) (.int 1))) (.str ⟨#[40]⟩)) (.meth (.str ⟨#[44, 32]⟩) 1785686382 [.var 482671228019])) (.str ⟨#[41]⟩)) (wOwn ρ1 (some (482671228019, .lst ls))) 235 (headW m c') := by
    rw [← hhead]
    exact EvS.cat (n := 234) (m := 1) (EvS.cat (n := 18) (m := 216) (EvS.cat (n := 17) (m := 1) (EvS.cat (n := 6) (m := 11) (EvS.cat (n := 4) (m := 2) (EvS.cat (n := 2) (m := 2) (EvS.ite (e_item (e_var ((W1 _ _ (by rfl)).trans i1)) e_int hN5) (fun _ => .lit rfl) (fun _ => .lit rfl)) (.var ((W1 _ _ (by rfl)).trans i2) (ownS_len c')) rfl) (.lit rfl) rfl) ⟨e_item (e_var ((W1 _ _ (by rfl)).trans i1)) e_int hN1, hnl⟩ rfl) (.lit rfl) rfl) ⟨e_meth (x := .str sComma) e_str (e_es1 (e_var (W2 _)) e_nil) (JE _ J.1), J.2⟩ rfl) (.lit rfl) rfl
  have hnone : evE (lv T (n + 2)).f (lv T (n + 2)).m isiT (knT T) (foT T) (.bin .Add (.bin .Add (.bin .Add (.bin .Add (.bin .Add (.bin .Add (.ite (.item (.var 1852793957) (.int 5)) (.str ⟨#[38, 32]⟩) (.str ⟨#[]⟩)) (.var 478745093490)) (.str ⟨#[58, 58]⟩)) (.item (.var 1852793957) (.int 1))) (.str ⟨#[40]⟩)) (.meth (.str ⟨#[44, 32]⟩) 1785686382 [.var 482671228019])) (.str ⟨#[41]⟩)) ρ1 = none := by
    exact e_binL (e_binR (e_methN (jDn fun y q => ns (q.symm.trans i3))))
  refine b_next (s_asgX rfl hnone rfl HW.ev rfl) ?_
  have ty := tyOK_R h.t
  have V1 : look (wOwn (put ρ1 512970876019 (.str (headW m c'))) (some (482671228019, .lst ls))) 1852793957 = some N := (W1 _ _ (by rfl)).trans (lk_ne (by rfl) i1)
  have V2 : look (wOwn (put ρ1 512970876019 (.str (headW m c'))) (some (482671228019, .lst ls))) 512970876019 = some (.str (headW m c')) := (W1 _ _ (by rfl)).trans lk_eq
  exact b_ret (s_retO (ev_rt (n := n) ty (e_item (e_var V1) e_int hN3) (.var V2 (Nat.le_trans HW.sh (by decide))) (.inr rfl)).ev)
end Mine
end

section
open PySem PySem.W PyProof.Rows PySem.Calls
set_option maxRecDepth 100000
namespace Mine

noncomputable def nCM : Nat := 30765223050532539336692887396
noncomputable def nLF : Nat := 450624087419614160841844
noncomputable def nmP (c : Bool) : Str := nmS c ++ ⟨#[40, 41]⟩
/-- the faults that stand ahead of the signature's -/
noncomputable def early (c : Bool) (svi bvi : Nat) (sst bst sab bab bfi : Bool) : Option Str :=
  if Nat.beq bvi 2 && !bab then some ⟨#[]⟩
  else if bfi then some (⟨#[67, 97, 110, 110, 111, 116, 32, 111, 118, 101, 114, 114, 105, 100, 101, 32, 102, 105, 110, 97, 108, 32, 109, 101, 116, 104, 111, 100, 32, 80, 48, 58, 58]⟩ ++ nmP c)
  else if bst && !sst then some ((⟨#[67, 97, 110, 110, 111, 116, 32, 109, 97, 107, 101, 32, 115, 116, 97, 116, 105, 99, 32, 109, 101, 116, 104, 111, 100, 32, 80, 48, 58, 58]⟩ ++ nmP c) ++ ⟨#[32, 110, 111, 110, 32, 115, 116, 97, 116, 105, 99, 32, 105, 110, 32, 99, 108, 97, 115, 115, 32, 80, 49]⟩)
  else if sst && !bst then some ((⟨#[67, 97, 110, 110, 111, 116, 32, 109, 97, 107, 101, 32, 110, 111, 110, 32, 115, 116, 97, 116, 105, 99, 32, 109, 101, 116, 104, 111, 100, 32, 80, 48, 58, 58]⟩ ++ nmP c) ++ ⟨#[32, 115, 116, 97, 116, 105, 99, 32, 105, 110, 32, 99, 108, 97, 115, 115, 32, 80, 49]⟩)
  else if sab && !bab then some ((⟨#[67, 97, 110, 110, 111, 116, 32, 109, 97, 107, 101, 32, 110, 111, 110, 32, 97, 98, 115, 116, 114, 97, 99, 116, 32, 109, 101, 116, 104, 111, 100, 32, 80, 48, 58, 58]⟩ ++ nmP c) ++ ⟨#[32, 97, 98, 115, 116, 114, 97, 99, 116, 32, 105, 110, 32, 99, 108, 97, 115, 115, 32, 80, 49]⟩)
  else if c && !bab then some ⟨#[]⟩
  else if Nat.ble svi bvi then none
  else some ((((⟨#[65, 99, 99, 101, 115, 115, 32, 108, 101, 118, 101, 108, 32, 116, 111, 32, 80, 49, 58, 58]⟩ ++ nmP c) ++ ⟨#[32, 109, 117, 115, 116, 32, 98, 101, 32]⟩) ++ visS bvi) ++ (if Nat.beq bvi 0 then ⟨#[32, 40, 97, 115, 32, 105, 110, 32, 99, 108, 97, 115, 115, 32, 80, 48, 41]⟩ else ⟨#[32, 40, 97, 115, 32, 105, 110, 32, 99, 108, 97, 115, 115, 32, 80, 48, 41, 32, 111, 114, 32, 119, 101, 97, 107, 101, 114]⟩))
noncomputable def toldS (x : Option XO) : Option D := match x with
  | some out => (toldD out).map .str
  | none => none
noncomputable def chkE (n : Nat) (H : D) (ps ps' ns ns' : List D) (ret ret' : D) (rf rf' : Bool) (c : Bool) (svi bvi : Nat) (sst bst sab bab sfi bfi : Bool) : Bool := match early c svi bvi sst bst sab bab bfi with
  | some m => strIs (toldS (lvX T nCF X (n + 5) nCM [H, funcQ (nmS c) ps ret rf sst (visS svi) (flD sab sfi) clsP1, funcQ (nmS c) ps' ret' rf' bst (visS bvi) (flD bab bfi) clsP0])) m && strIs ((lv T (n + 3)).f nLF [methQ (nmS c) ns ret rf, flagsD svi sst sab sfi, methQ (nmS c) ns' ret' rf', flagsD bvi bst bab bfi]) m
  | none => true
noncomputable def allB (f : Bool → Bool) : Bool := f false && f true
theorem allB_of {f : Bool → Bool} (h : allB f = true) (b : Bool) : f b = true := by
  unfold allB at h
  rw [Bool.and_eq_true] at h
  cases b
  · exact h.1
  · exact h.2
theorem all_of {n : Nat} {f : Nat → Bool} (h : (List.range n).all f = true) {i : Nat} (hi : i < n) : f i = true := List.all_eq_true.mp h i (List.mem_range.mpr hi)
noncomputable def chkB (n : Nat) (H : D) (ps ps' ns ns' : List D) (ret ret' : D) (rf rf' c : Bool) : Bool := (List.range 3).all fun svi => (List.range 3).all fun bvi => allB fun sst => allB fun bst => allB fun sab => allB fun bab => allB fun sfi => allB fun bfi => chkE n H ps ps' ns ns' ret ret' rf rf' c svi bvi sst bst sab bab sfi bfi
section
variable (n : Nat) (H : D) (ps ps' ns ns' : List D) (ret ret' : D) (rf rf' : Bool)
theorem chkE_f : chkB n H ps ps' ns ns' ret ret' rf rf' false = true := by kernel_rfl
theorem chkE_t : chkB n H ps ps' ns ns' ret ret' rf rf' true = true := by kernel_rfl
theorem chkE_tab : ∀ c, chkB n H ps ps' ns ns' ret ret' rf rf' c = true
  | false => chkE_f ..
  | true => chkE_t ..
end
end Mine
end

section
open PySem PySem.W PyProof.Rows PySem.Calls
set_option maxRecDepth 100000
namespace Mine

section
variable {Γx : Nat → List D → Option XO} {Γ : Nat → List D → Option D} {Γm : Nat → D → List D → Option D} {isi : D → Nat → Option Bool} {kn : Nat → Bool} {fo : Nat → Nat → Bool} {Γk : Nat → List D → Option (List (Nat × D))} {Γu : Nat → Nat → List (Nat × D) → List D → Option (List (Nat × D))}
variable {ρ : List (Nat × D)} {l : List PE} {ds : List D} {c : PE} {r : List XS} {f : Nat} {m : Str}
theorem jMd {β : Type} {o : Option XO} {f : Str → Option β} {z : Option β} (h : o = some (.made m)) (h2 : f m = z) : (match (generalizing := false) o with | some (.made m) => f m | _ => none) = z := by subst h; exact h2
theorem x_ifT (h : evE Γ Γm isi kn fo c ρ = some (.bool true)) (hl : evEs Γ Γm isi kn fo l ρ = some ds) (hx : Γx f ds = some (.made m)) : evXB Γx Γ Γm isi kn fo Γk Γu (.ifF c f l :: r) ρ = some (.bad m) := jT h (jL hl (jMd hx rfl))
theorem x_ifN (h : evE Γ Γm isi kn fo c ρ = some (.bool false)) : evXB Γx Γ Γm isi kn fo Γk Γu [.ifF c f l] ρ = some (.fine .none) := jF h rfl
theorem evB_app {B : List PS} {ρ' : List (Nat × D)} {o' : Option (Nat × D)} {z : Option Out} {A : List PS} {ρ : List (Nat × D)} {o : Option (Nat × D)} (h : evB Γ Γm isi kn fo Γk Γu A ρ o = some (.next ρ' o')) (h2 : evB Γ Γm isi kn fo Γk Γu B ρ' o' = z) : evB Γ Γm isi kn fo Γk Γu (A ++ B) ρ o = z := by
  induction A generalizing ρ o with
  | nil =>
    have h := Option.some.inj h
    injection h with e1 e2
    subst e1 e2
    exact h2
  | cons p A ih =>
    cases e : evS Γ Γm isi kn fo Γk Γu p ρ o with
    | none => exact nn ((ev_none e).symm.trans h)
    | some x =>
      cases x with
      | next ρ1 o1 => exact jNx e (ih ((ev_next e).symm.trans h))
      | cont ρ1 o1 => exact nomatch (ev_cont e).symm.trans h
      | ret d => exact nomatch (ev_ret e).symm.trans h
end
theorem lvX_f {n f : Nat} {fn : Fn} {xb : List XS} {ds : List D} {ρ : List (Nat × D)} {z : Option XO} (hne : Nat.beq f nCF = false) (h : findX X f = some (fn, xb)) (ha : argD fn.ps fn.dfl ds = some ρ) (hb : evXB (lvX T nCF X n) (lv T n).f (lv T n).m isiT (knT T) (foT T) (lv T n).k (lv T n).u xb ρ = z) : lvX T nCF X (n + 1) f ds = z := by
  have e : lvX T nCF X (n + 1) f ds = runX (lvX T nCF X n) (lv T n).f (lv T n).m (isiD (isClsT T)) (knT T) (foT T) (lv T n).k (lv T n).u fn xb ds := by
    clear ha
    simp only [lvX, hne, h]
  rw [e]
  unfold runX
  rw [ha]
  exact hb

theorem headW_len {m : Md} (h : m.ok) {c : Bool} (hn : m.nm = nmS c) (c' : Bool) : (headW m c').length ≤ 300 := by
  have hl3 : (List.range m.ps.length).length ≤ 3 := by rw [List.length_range]; exact h.len
  have J := ev_join (l := List.range m.ps.length) (g := wAt m.ps (reqQ m.qs)) hl3 fun i _ => wAt_len h.ps _ _
  have hnl : m.nm.length ≤ 11 := by rw [hn]; exact nmS_len c
  have e1 : (if m.rf then (⟨#[38, 32]⟩ : Str) else ⟨#[]⟩).length ≤ 2 := len_if (by decide) (by decide)
  have := ownS_len c'
  have : sColon2.length = 2 := rfl
  have : Str.length ⟨#[40]⟩ = 1 := rfl
  have : Str.length ⟨#[41]⟩ = 1 := rfl
  have : (jW m.ps (reqQ m.qs)).length ≤ 216 := J.2
  unfold headW
  simp only [Str.length_append]
  omega
theorem mW_len {m : Md} (h : m.ok) {c : Bool} (hn : m.nm = nmS c) (c' : Bool) : (mW m c').length ≤ 400 := by
  have h1 := headW_len h hn c'
  unfold mW
  rcases tyOK_R h.t with e | e
  · rw [e]
    show (headW m c').length ≤ 400
    omega
  · rw [rW_of e, Str.length_append, Str.length_append]
    have := e.len
    have : Str.length ⟨#[58, 32]⟩ = 2 := rfl
    omega
noncomputable def declS (s b : Md) : Str := (((⟨#[68, 101, 99, 108, 97, 114, 97, 116, 105, 111, 110, 32, 111, 102, 32]⟩ ++ mW s true) ++ ⟨#[32, 109, 117, 115, 116, 32, 98, 101, 32, 99, 111, 109, 112, 97, 116, 105, 98, 108, 101, 32, 119, 105, 116, 104, 32]⟩) ++ mW b false)
noncomputable def nCS : Nat := 516154792406963438445235478434509413
theorem ev_cs {s b : Md} (hs : s.ok) (hb : b.ok) {c : Bool} (hn : s.nm = nmS c) (hn' : b.nm = nmS c) (al : Bool) (n : Nat) : lvX T nCF X (n + 9) nCS [hostT al, s.func clsP1, clsP1, b.func clsP0, clsP0] = some (if fitP s b then .fine .none else .bad (declS s b)) := by
  have F := ev_fits hs hb al (k := clsP1) (k' := clsP0) n
  have W1 := ev_func_words hs hn true (n + 2)
  have W2 := ev_func_words hb hn' false (n + 2)
  have W1' : (lv T (n + 8)).f 483847604615661271278707 [s.func clsP1] = some (.str (mW s true)) := W1
  have W2' : (lv T (n + 8)).f 483847604615661271278707 [b.func clsP0] = some (.str (mW b false)) := W2
  have m1 := mW_len hs hn true
  have m2 := mW_len hb hn' false
  generalize s.func clsP1 = S at *
  generalize b.func clsP0 = B at *
  generalize hostT al = H at *
  refine lvX_f (n := n + 8) (fn := f_check_signature) (xb := x_check_signature) (by rfl) (by kernel_rfl) (ρ := [(1752134516, H), (7566690, S), (2129833996441738113907, clsP1), (1650553701, B), (464589564653577051403123, clsP0)]) (by kernel_rfl) ?_
  have cond := e_not (Γ := (lv T (n + 8)).f) (Γm := (lv T (n + 8)).m) (isi := isiT) (kn := knT T) (fo := foT T) (ρ := [(1752134516, H), (7566690, S), (2129833996441738113907, clsP1), (1650553701, B), (464589564653577051403123, clsP0)]) (e_call (l := [.var 1752134516, .var 7566690, .var 2129833996441738113907, .var 1650553701, .var 464589564653577051403123]) (by kernel_rfl) F)
  cases hf : fitP s b with
  | true =>
    rw [hf] at cond
    exact x_ifN cond
  | false =>
    rw [hf] at cond
    exact x_ifT cond (e_es1 (EvS.cat (n := 440) (m := 400) (EvS.cat (n := 415) (m := 25) (EvS.cat (n := 15) (m := 400) (.lit rfl) (EvS.call (e_es1 (e_var (by kernel_rfl)) e_nil) W1' m1) rfl) (.lit rfl) rfl) (EvS.call (e_es1 (e_var (by kernel_rfl)) e_nil) W2' m2) rfl).ev e_nil) (by kernel_rfl)

/-- what stays when no fault stands ahead -/
theorem early_none {c : Bool} {svi bvi : Nat} {sst bst sab bab bfi : Bool} (h : early c svi bvi sst bst sab bab bfi = none) : (Nat.beq bvi 2 && !bab) = false ∧ bfi = false ∧ bst = sst ∧ (sab && !bab) = false ∧ (c && !bab) = false ∧ Nat.ble svi bvi = true := by
  unfold early at h
  split at h
  · cases h
  · rename_i h1
    split at h
    · cases h
    · rename_i h2
      split at h
      · cases h
      · rename_i h3
        split at h
        · cases h
        · rename_i h4
          split at h
          · cases h
          · rename_i h5
            split at h
            · cases h
            · rename_i h6
              split at h
              · rename_i h7
                refine ⟨Bool.eq_false_iff.mpr h1, Bool.eq_false_iff.mpr h2, ?_, Bool.eq_false_iff.mpr h5, Bool.eq_false_iff.mpr h6, h7⟩
                cases bst <;> cases sst <;> first | rfl | exact absurd rfl h3 | exact absurd rfl h4
              · cases h
noncomputable def gd {α : Type} (o : Option Str) (x : α) : Option α := match o with
  | none => some x
  | some _ => none
theorem gd_of {α : Type} {o : Option Str} {x y : α} (h : gd o x = gd o y) (ho : o = none) : x = y := by rw [ho] at h; exact Option.some.inj h
theorem tab7 {α : Type} {f g : Nat → Nat → Bool → Bool → Bool → Bool → Bool → α} {n m : Nat} (h : mpL (fun x => mpL (fun y => mbL fun a => mbL fun b => mbL fun c => mbL fun d => mbL (f x y a b c d)) (List.range m)) (List.range n) = mpR (fun x => mpR (fun y => mbR fun a => mbR fun b => mbR fun c => mbR fun d => mbR (g x y a b c d)) (List.range m)) (List.range n))
    {x y : Nat} (hx : x < n) (hy : y < m) (a b c d e : Bool) : f x y a b c d e = g x y a b c d e :=
  tb1 (tb4 (f := fun a b c d => mbL (f x y a b c d)) (g := fun a b c d => mbR (g x y a b c d)) (tab2 (f := fun x y => mbL fun a => mbL fun b => mbL fun c => mbL fun d => mbL (f x y a b c d)) (g := fun x y => mbR fun a => mbR fun b => mbR fun c => mbR fun d => mbR (g x y a b c d)) h hx hy) a b c d) e
noncomputable def afterC (x : Option XO) : Option XO := match x with
  | some (.bad m) => some (.bad m)
  | some (.fine .none) => some (.fine .none)
  | _ => none
theorem ev_check {c : Bool} {svi bvi : Nat} {sst bst sab bab sfi bfi : Bool} (h : early c svi bvi sst bst sab bab bfi = none) (hv : svi < 3) (hv' : bvi < 3) (n : Nat) (H : D) (ps ps' : List D) (ret ret' : D) (rf rf' : Bool) {z : Option XO} (hz : z = some (.fine .none) ∨ ∃ m, z = some (.bad m))
    (hc : lvX T nCF X (n + 9) nCS [H, funcQ (nmS c) ps ret rf sst (visS svi) (flD sab sfi) clsP1, clsP1, funcQ (nmS c) ps' ret' rf' bst (visS bvi) (flD bab bfi) clsP0, clsP0] = z) :
    lvX T nCF X (n + 10) nCM [H, funcQ (nmS c) ps ret rf sst (visS svi) (flD sab sfi) clsP1, funcQ (nmS c) ps' ret' rf' bst (visS bvi) (flD bab bfi) clsP0] = z := by
  obtain ⟨h1, rfl, rfl, h5, h6, h7⟩ := early_none h
  have e : lvX T nCF X (n + 10) nCM [H, funcQ (nmS c) ps ret rf bst (visS svi) (flD sab sfi) clsP1, funcQ (nmS c) ps' ret' rf' bst (visS bvi) (flD bab false) clsP0] = afterC (lvX T nCF X (n + 9) nCS [H, funcQ (nmS c) ps ret rf bst (visS svi) (flD sab sfi) clsP1, clsP1, funcQ (nmS c) ps' ret' rf' bst (visS bvi) (flD bab false) clsP0, clsP0]) :=
    gd_of (tab7 (f := fun svi bvi c bst sab bab sfi => gd (early c svi bvi bst bst sab bab false) (lvX T nCF X (n + 10) nCM [H, funcQ (nmS c) ps ret rf bst (visS svi) (flD sab sfi) clsP1, funcQ (nmS c) ps' ret' rf' bst (visS bvi) (flD bab false) clsP0]))
      (g := fun svi bvi c bst sab bab sfi => gd (early c svi bvi bst bst sab bab false) (afterC (lvX T nCF X (n + 9) nCS [H, funcQ (nmS c) ps ret rf bst (visS svi) (flD sab sfi) clsP1, clsP1, funcQ (nmS c) ps' ret' rf' bst (visS bvi) (flD bab false) clsP0, clsP0]))) (n := 3) (m := 3) (by kernel_rfl) hv hv' c bst sab bab sfi) h
  rw [e, hc]
  rcases hz with rfl | ⟨m, rfl⟩ <;> rfl

noncomputable def rhoF (c bab : Bool) (S Sf B Bf : D) : List (Nat × D) := [(7566690, S), (2129833996420263274355, Sf), (1650553701, B), (464589564653555576563571, Bf), (127482042663051188320166772, .bool bab), (1851878757, .str (nmP c)), (1936024942, .tup [.str (visS 0), .str (visS 1), .str (visS 2)])]
theorem ev_lf_pre {c : Bool} {svi bvi : Nat} {sst bst sab bab sfi bfi : Bool} (h : early c svi bvi sst bst sab bab bfi = none) (hv : svi < 3) (hv' : bvi < 3) (n : Nat) (ns ns' : List D) (ret ret' : D) (rf rf' : Bool) :
    evB (lv T (n + 1)).f (lv T (n + 1)).m isiT (knT T) (foT T) (lv T (n + 1)).k (lv T (n + 1)).u (f__law_fault.body.take 8) [(7566690, methQ (nmS c) ns ret rf), (2129833996420263274355, flagsD svi sst sab sfi), (1650553701, methQ (nmS c) ns' ret' rf'), (464589564653555576563571, flagsD bvi bst bab bfi)] none =
      some (.next (rhoF c bab (methQ (nmS c) ns ret rf) (flagsD svi sst sab sfi) (methQ (nmS c) ns' ret' rf') (flagsD bvi bst bab bfi)) none) := by
  obtain ⟨h1, rfl, rfl, h5, h6, h7⟩ := early_none h
  exact gd_of (tab7 (f := fun svi bvi c bst sab bab sfi => gd (early c svi bvi bst bst sab bab false) (evB (lv T (n + 1)).f (lv T (n + 1)).m isiT (knT T) (foT T) (lv T (n + 1)).k (lv T (n + 1)).u (f__law_fault.body.take 8) [(7566690, methQ (nmS c) ns ret rf), (2129833996420263274355, flagsD svi bst sab sfi), (1650553701, methQ (nmS c) ns' ret' rf'), (464589564653555576563571, flagsD bvi bst bab false)] none))
      (g := fun svi bvi c bst sab bab sfi => gd (early c svi bvi bst bst sab bab false) (some (.next (rhoF c bab (methQ (nmS c) ns ret rf) (flagsD svi bst sab sfi) (methQ (nmS c) ns' ret' rf') (flagsD bvi bst bab false)) none))) (n := 3) (m := 3) (by kernel_rfl) hv hv' c bst sab bab sfi) h

theorem ev_fault {s b : Md} (hs : s.ok) (hb : b.ok) {c : Bool} (hn : s.nm = nmS c) (hn' : b.nm = nmS c) (al : Bool) (n : Nat) :
    ∃ out m, lvX T nCF X (n + 10) nCM [hostT al, s.func clsP1, b.func clsP0] = some out ∧ toldD out = some m ∧ ∀ k, (lv T (k + 8)).f nLF [s.node, s.flags, b.node, b.flags] = some (.str m) := by
  cases he : early c s.vi b.vi s.st b.st s.ab b.ab b.fi with
  | some m =>
    have hh : ∀ n, strIs (toldS (lvX T nCF X (n + 10) nCM [hostT al, funcQ (nmS c) (s.qs.map Qm.par) (tyD s.t) s.rf s.st (visS s.vi) (flD s.ab s.fi) clsP1, funcQ (nmS c) (b.qs.map Qm.par) (tyD b.t) b.rf b.st (visS b.vi) (flD b.ab b.fi) clsP0])) m = true ∧ strIs ((lv T (n + 8)).f nLF [methQ (nmS c) (s.qs.map Qm.node) (tyD s.t) s.rf, flagsD s.vi s.st s.ab s.fi, methQ (nmS c) (b.qs.map Qm.node) (tyD b.t) b.rf, flagsD b.vi b.st b.ab b.fi]) m = true := fun n => by
      have h := allB_of (allB_of (allB_of (allB_of (allB_of (allB_of (all_of (all_of (chkE_tab (n + 5) (hostT al) (s.qs.map Qm.par) (b.qs.map Qm.par) (s.qs.map Qm.node) (b.qs.map Qm.node) (tyD s.t) (tyD b.t) s.rf b.rf c) hs.vi) hb.vi) s.st) b.st) s.ab) b.ab) s.fi) b.fi
      unfold chkE at h
      rw [he] at h
      dsimp only at h
      rw [Bool.and_eq_true] at h
      exact h
    have e1 := strIs_of (hh n).1
    have e2 : ∀ k, (lv T (k + 8)).f nLF [s.node, s.flags, b.node, b.flags] = some (.str m) := fun k => by
      show (lv T (k + 8)).f nLF [methQ s.nm (s.qs.map Qm.node) (tyD s.t) s.rf, flagsD s.vi s.st s.ab s.fi, methQ b.nm (b.qs.map Qm.node) (tyD b.t) b.rf, flagsD b.vi b.st b.ab b.fi] = _
      rw [hn, hn']
      exact strIs_of (hh k).2
    have e1' : toldS (lvX T nCF X (n + 10) nCM [hostT al, s.func clsP1, b.func clsP0]) = some (.str m) := by
      show toldS (lvX T nCF X (n + 10) nCM [hostT al, funcQ s.nm (s.qs.map Qm.par) (tyD s.t) s.rf s.st (visS s.vi) (flD s.ab s.fi) clsP1, funcQ b.nm (b.qs.map Qm.par) (tyD b.t) b.rf b.st (visS b.vi) (flD b.ab b.fi) clsP0]) = _
      rw [hn, hn']
      exact e1
    generalize lvX T nCF X (n + 10) nCM [hostT al, s.func clsP1, b.func clsP0] = r at *
    cases r with
    | none => cases e1'
    | some out =>
      refine ⟨out, m, rfl, ?_, e2⟩
      have e3 : (toldD out).map D.str = some (.str m) := e1'
      obtain ⟨m', h3, h4⟩ := Option.map_eq_some_iff.mp e3
      cases h4
      exact h3
  | none =>
    have C := ev_cs hs hb hn hn' al n
    have K := ev_check (sfi := s.fi) he hs.vi hb.vi n (hostT al) (s.qs.map Qm.par) (b.qs.map Qm.par) (tyD s.t) (tyD b.t) s.rf b.rf (z := some (if fitP s b then .fine .none else .bad (declS s b))) (by cases fitP s b; exact .inr ⟨_, rfl⟩; exact .inl rfl) (by
      have e : lvX T nCF X (n + 9) nCS [hostT al, funcQ s.nm (s.qs.map Qm.par) (tyD s.t) s.rf s.st (visS s.vi) (flD s.ab s.fi) clsP1, clsP1, funcQ b.nm (b.qs.map Qm.par) (tyD b.t) b.rf b.st (visS b.vi) (flD b.ab b.fi) clsP0, clsP0] = _ := C
      rw [hn, hn'] at e
      exact e)
    have K' : lvX T nCF X (n + 10) nCM [hostT al, s.func clsP1, b.func clsP0] = some (if fitP s b then .fine .none else .bad (declS s b)) := by
      show lvX T nCF X (n + 10) nCM [hostT al, funcQ s.nm (s.qs.map Qm.par) (tyD s.t) s.rf s.st (visS s.vi) (flD s.ab s.fi) clsP1, funcQ b.nm (b.qs.map Qm.par) (tyD b.t) b.rf b.st (visS b.vi) (flD b.ab b.fi) clsP0] = _
      rw [hn, hn']
      exact K
    have es : s.node = methQ (nmS c) (s.qs.map Qm.node) (tyD s.t) s.rf := by rw [← hn]; rfl
    have eb : b.node = methQ (nmS c) (b.qs.map Qm.node) (tyD b.t) b.rf := by rw [← hn']; rfl
    refine ⟨_, if fitP s b then ⟨#[]⟩ else declS s b, K', by cases fitP s b <;> rfl, fun n => ?_⟩
    have P := ev_lf_pre (sfi := s.fi) he hs.vi hb.vi (n + 6) (s.qs.map Qm.node) (b.qs.map Qm.node) (tyD s.t) (tyD b.t) s.rf b.rf
    have LF := ev_lfits hs hb n
    have W1 := ev_law_words hs hn true (n + 4)
    have W2 := ev_law_words hb hn' false (n + 4)
    have W1' : (lv T (n + 7)).f 450624087419687409968243 [s.node, .str ⟨#[80, 49]⟩] = some (.str (mW s true)) := W1
    have W2' : (lv T (n + 7)).f 450624087419687409968243 [b.node, .str ⟨#[80, 48]⟩] = some (.str (mW b false)) := W2
    have m1 := mW_len hs hn true
    have m2 := mW_len hb hn' false
    rw [← es, ← eb] at P
    have P' : evB (lv T (n + 7)).f (lv T (n + 7)).m isiT (knT T) (foT T) (lv T (n + 7)).k (lv T (n + 7)).u (f__law_fault.body.take 8) [(7566690, s.node), (2129833996420263274355, s.flags), (1650553701, b.node), (464589564653555576563571, b.flags)] none = some (.next (rhoF c b.ab s.node s.flags b.node b.flags) none) := P
    generalize s.node = S at *
    generalize b.node = B at *
    generalize s.flags = Sf at *
    generalize b.flags = Bf at *
    refine lvf (n := n + 7) (fn := f__law_fault) (by kernel_rfl) (ρ := [(7566690, S), (2129833996420263274355, Sf), (1650553701, B), (464589564653555576563571, Bf)]) (by kernel_rfl) ?_
    rw [← List.take_append_drop 8 f__law_fault.body]
    refine evB_app P' ?_
    have cond : evE (lv T (n + 7)).f (lv T (n + 7)).m isiT (knT T) (foT T) (.call 1760250341482868339827 [.var 7566690, .var 1650553701]) (rhoF c b.ab S Sf B Bf) = some (.bool (fitP s b)) := e_call (by kernel_rfl) LF
    cases hf : fitP s b with
    | true =>
      rw [hf] at cond
      exact b_ret (s_iteT cond (b_ret (s_ret e_str)))
    | false =>
      rw [hf] at cond
      exact b_next (s_iteF cond b_nil) (b_ret (s_ret (EvS.cat (n := 440) (m := 400) (EvS.cat (n := 415) (m := 25) (EvS.cat (n := 15) (m := 400) (.lit rfl) (EvS.call (e_es1 (e_var (by kernel_rfl)) (e_es1 e_str e_nil)) W1' m1) rfl) (.lit rfl) rfl) (EvS.call (e_es1 (e_var (by kernel_rfl)) (e_es1 e_str e_nil)) W2' m2) rfl).ev))
end Mine
end

section
open PySem PySem.W PyProof.Rows PySem.Calls
set_option maxRecDepth 100000
namespace Mine

noncomputable def nTk : Nat := 450624087419674289726835
noncomputable def clsOther : D := .inst nKlass kfsO
noncomputable def arrD : D := .inst 4289138 [(1945221614740234265956, .bool true), (1801812339, .lst []), (1986096243, .lst []), (448377480307, .lst []), (474148795507, .lst []), (1936292453, .int 8), (427071729268, .int 0), (1852143732, .int (-9223372036854775808)), (24948, .int 0), (1945221618068800824676, .bool false), (512735603571, .dct [])]
noncomputable def objD (k : D) : D := .inst 5202538 [(6515827, k), (114767673191525, .int 1), (482956243059, .dct []), (1684108385, .none), (113753843721331, .dct []), (29681726065570681, .bool false), (8354663162188162358666413237604, .bool false)]
noncomputable def valsL : List D := [.int 1, .str ⟨#[120]⟩, .bool true, .bool false, .none, arrD, objD clsP0, objD clsP1, objD clsOther]
noncomputable def valAt (v : Nat) : D := (valsL[v]?).getD .none
/-- what a type takes, told by a closed run -/
noncomputable def tk (τ v : D) (c : Bool) : Bool := (boolOf ((lv T 9).f nTk [.none, τ, v, clsP c])).getD false
noncomputable def tkIs (x : Option D) (y : Option Bool) : Bool := same? x y
theorem tkE_tab (H : D) (n : Nat) : ((List.range 21).all fun i => (List.range 9).all fun v => allB fun c => tkIs ((lv T (n + 6)).f nTk [H, tE i, valAt v, clsP c]) (boolOf ((lv T 9).f nTk [.none, tE i, valAt v, clsP c]))) = true := by kernel_rfl
theorem tkR_tab (H : D) (n : Nat) : ((List.range 14).all fun i => (List.range 9).all fun v => allB fun c => tkIs ((lv T (n + 6)).f nTk [H, tyD i, valAt v, clsP c]) (boolOf ((lv T 9).f nTk [.none, tyD i, valAt v, clsP c]))) = true := by kernel_rfl
theorem sndE_tab : ((List.range 21).all fun i => (List.range 21).all fun j => !((wT i j).getD false) || (List.range 9).all fun v => !(tk (tE i) (valAt v) false) || tk (tE j) (valAt v) true) = true := by kernel_rfl
theorem sndR_tab : ((List.range 14).all fun i => (List.range 14).all fun j => !(rQ i j) || (List.range 9).all fun v => !(tk (tyD i) (valAt v) true) || tk (tyD j) (valAt v) false) = true := by kernel_rfl
end Mine
end

section
open PySem PySem.W PyProof.Rows PySem.Calls
set_option maxRecDepth 100000
namespace Mine

section
variable {Γ : Nat → List D → Option D} {Γm : Nat → D → List D → Option D} {isi : D → Nat → Option Bool} {kn : Nat → Bool} {fo : Nat → Nat → Bool} {Γk : Nat → List D → Option (List (Nat × D))} {Γu : Nat → Nat → List (Nat × D) → List D → Option (List (Nat × D))}
variable {ρ : List (Nat × D)} {e : PE} {b : Bool}
theorem ts_1 (h : evE Γ Γm isi kn fo e ρ = some (.bool b)) : evTs Γ Γm isi kn fo [e] ρ = some b := by
  cases b
  · exact jF h rfl
  · exact jT h rfl
theorem k_filter {t : D → Option Bool} {f : D → Option D} {g : D → Bool} : ∀ ds : List D, (∀ d ∈ ds, t d = some (g d) ∧ f d = some d) → keepM t f ds = some (ds.filter g)
  | [], _ => rfl
  | d :: ds, h => by
    obtain ⟨h1, h2⟩ := h d (List.mem_cons_self ..)
    have ih := k_filter (t := t) (f := f) (g := g) ds fun x hx => h x (List.mem_cons_of_mem _ hx)
    cases e : g d with
    | true => rw [e] at h1; rw [List.filter_cons_of_pos (by rw [e])]; exact k_cons h1 h2 ih
    | false => rw [e] at h1; rw [List.filter_cons_of_neg (by rw [e]; exact Bool.false_ne_true)]; exact k_skip h1 ih
theorem k_all {t : D → Option Bool} {f : D → Option D} : ∀ ds : List D, (∀ d ∈ ds, t d = some true ∧ f d = some (.bool true)) → keepM t f ds = some (ds.map fun _ => .bool true)
  | [], _ => rfl
  | d :: ds, h => by
    obtain ⟨h1, h2⟩ := h d (List.mem_cons_self ..)
    exact k_cons h1 h2 (k_all ds fun x hx => h x (List.mem_cons_of_mem _ hx))
end
theorem bools_true : ∀ ds : List D, boolsD (ds.map fun _ => .bool true) = some (ds.map fun _ => true)
  | [] => rfl
  | d :: ds => by
    show (boolsD (ds.map fun _ => D.bool true)).map (true :: ·) = _
    rw [bools_true ds]; rfl
theorem ev_all (ds : List D) (n : Nat) : (lv T (n + 1)).f 6384748 [.lst (ds.map fun _ => .bool true)] = some (.bool true) := by
  have e : (lv T (n + 1)).f 6384748 [.lst (ds.map fun _ => .bool true)] = (boolsD (ds.map fun _ => D.bool true)).map fun bs => .bool (bs.all id) := by kernel_rfl
  rw [e, bools_true]
  simp

/-- a value of the nine -/
theorem vals_mem {d : D} (h : d ∈ valsL) : ∃ v, v < 9 ∧ d = valAt v := by
  refine hide fun Gg kg => ?_
  obtain ⟨v, hv, e⟩ := List.mem_iff_getElem.mp h
  refine kg ?_; clear kg Gg
  have h9 : valsL.length = 9 := rfl
  refine ⟨v, by omega, ?_⟩
  unfold valAt
  rw [List.getElem?_eq_getElem hv, e]; rfl
theorem tk_of {H τ v : D} {c : Bool} {n : Nat} (h : tkIs ((lv T (n + 6)).f nTk [H, τ, v, clsP c]) (boolOf ((lv T 9).f nTk [.none, τ, v, clsP c])) = true) : (lv T (n + 6)).f nTk [H, τ, v, clsP c] = some (.bool (tk τ v c)) := by
  refine hide fun Gg kg => ?_
  obtain ⟨b, h1, h2⟩ := same_of h
  refine kg ?_; clear kg Gg
  unfold tk
  rw [h1, h2]; rfl
theorem tk_E {t d : Nat} (vv : Bool) (h1 : t < 12) (h2 : d < 10) {x : D} (hx : x ∈ valsL) (c : Bool) (H : D) (n : Nat) : (lv T (n + 6)).f nTk [H, eT t d vv, x, clsP c] = some (.bool (tk (eT t d vv) x c)) := by
  refine hide fun Gg kg => ?_
  obtain ⟨v, hv, rfl⟩ := vals_mem hx
  obtain ⟨e, hi⟩ := eT_tE vv h1 h2
  refine kg ?_; clear kg Gg
  rw [e]
  exact tk_of (allB_of (all_of (all_of (tkE_tab H n) hi) hv) c)
theorem tk_R {t : Nat} (h1 : t < 14) {x : D} (hx : x ∈ valsL) (c : Bool) (H : D) (n : Nat) : (lv T (n + 6)).f nTk [H, tyD t, x, clsP c] = some (.bool (tk (tyD t) x c)) := by
  refine hide fun Gg kg => ?_
  obtain ⟨v, hv, rfl⟩ := vals_mem hx
  refine kg ?_; clear kg Gg
  exact tk_of (allB_of (all_of (all_of (tkR_tab H n) h1) hv) c)
theorem imp_b {a b : Bool} (h : (!a || b) = true) (ha : a = true) : b = true := by subst ha; exact h
theorem snd_E {a p : Pm} (ha : a.ok) (hp : p.ok) (h : wQ p.q a.q = true) {x : D} (hx : x ∈ valsL) : (tk a.q.τ x false && !tk p.q.τ x true) = false := by
  refine hide fun Gg kg => ?_
  obtain ⟨v, hv, rfl⟩ := vals_mem hx
  obtain ⟨e1, l1⟩ := eT_tE a.v ha.1 ha.2
  obtain ⟨e2, l2⟩ := eT_tE p.v hp.1 hp.2
  refine kg ?_; clear kg Gg
  rw [w_tab ha hp] at h
  have := all_of (imp_b (at_all sndE_tab l1 l2) h) hv
  show (tk (eT a.t a.d a.v) (valAt v) false && !tk (eT p.t p.d p.v) (valAt v) true) = false
  rw [e1, e2]
  revert this
  cases tk (tE (eI a.t a.d a.v)) (valAt v) false <;> cases tk (tE (eI p.t p.d p.v)) (valAt v) true <;> decide
theorem snd_R {i j : Nat} (hi : i < 14) (hj : j < 14) (h : rQ i j = true) {x : D} (hx : x ∈ valsL) (ht : tk (tyD i) x true = true) : tk (tyD j) x false = true := by
  refine hide fun Gg kg => ?_
  obtain ⟨v, hv, rfl⟩ := vals_mem hx
  refine kg ?_; clear kg Gg
  exact imp_b (all_of (imp_b (at_all sndR_tab hi hj) h) hv) ht
theorem le_int (i L : Nat) : cmpD .LtE (.int i) (.int L) = some (decide (i ≤ L)) := c_le _ _
theorem lt_int (i L : Nat) : cmpD .Lt (.int i) (.int L) = some (decide (i < L)) := c_lt _ _
theorem fitP_parts {s b : Md} (h : fitP s b = true) : reqQ s.qs ≤ reqQ b.qs ∧ (∀ i, i < s.qs.length ∨ i < b.qs.length → okAt (fun q a => (q.r == a.r) && wQ q a) s.qs b.qs i = true) ∧ rQ s.t b.t = true := by
  unfold fitP fitB at h
  simp only [Bool.and_eq_true] at h
  refine hide fun Gg kg => ?_
  obtain ⟨⟨⟨h1, h2⟩, h3⟩, h4⟩ := h
  refine kg ?_; clear kg Gg
  refine ⟨?_, fun i hi => ?_, h4⟩
  · rw [Bool.not_eq_true', Bool.or_eq_false_iff] at h1
    have := of_decide_eq_false h1.1
    omega
  · exact List.all_eq_true.mp h3 i (List.mem_range.mpr (by omega))

theorem ev_sound {s b : Md} (hs : s.ok) (hb : b.ok) (hf : fitP s b = true) (H : D) (n : Nat) : (lv T (n + 7)).f 7560217649441970628274785971812 [H, s.func clsP1, b.func clsP0, .lst valsL] = some (.bool true) := by
  refine hide fun Gg kg => ?_
  obtain ⟨p1, p2, p3⟩ := fitP_parts hf
  refine kg ?_; clear kg Gg
  have R1 := ev_required (nm := s.nm) (vi := visS s.vi) (ret := tyD s.t) (fl := flD s.ab s.fi) (k := clsP1) (rf := s.rf) (st := s.st) hs.qs.1 hs.qs.2.1 (n + 4)
  have R2 := ev_required (nm := b.nm) (vi := visS b.vi) (ret := tyD b.t) (fl := flD b.ab b.fi) (k := clsP0) (rf := b.rf) (st := b.st) hb.qs.1 hb.qs.2.1 (n + 4)
  have P1 : ∀ i : Nat, i < 4 → (lv T (n + 6)).f 8097879367761224052 [funcQ s.nm (s.qs.map Qm.par) (tyD s.t) s.rf s.st (visS s.vi) (flD s.ab s.fi) clsP1, .int i] = some (optD Qm.par (atQ s.qs i)) := fun i hi => ev_param_at hs.qs.1 hi (n + 4)
  have P2 : ∀ i : Nat, i < 4 → (lv T (n + 6)).f 8097879367761224052 [funcQ b.nm (b.qs.map Qm.par) (tyD b.t) b.rf b.st (visS b.vi) (flD b.ab b.fi) clsP0, .int i] = some (optD Qm.par (atQ b.qs i)) := fun i hi => ev_param_at hb.qs.1 hi (n + 4)
  have aP1 : attrD (foT T) (funcQ s.nm (s.qs.map Qm.par) (tyD s.t) s.rf s.st (visS s.vi) (flD s.ab s.fi) clsP1) 123563833126259 = some (.lst (s.qs.map Qm.par)) := by kernel_rfl
  have aP2 : attrD (foT T) (funcQ b.nm (b.qs.map Qm.par) (tyD b.t) b.rf b.st (visS b.vi) (flD b.ab b.fi) clsP0) 123563833126259 = some (.lst (b.qs.map Qm.par)) := by kernel_rfl
  have aK1 : attrD (foT T) (funcQ s.nm (s.qs.map Qm.par) (tyD s.t) s.rf s.st (visS s.vi) (flD s.ab s.fi) clsP1) 6515827 = some clsP1 := by kernel_rfl
  have aK2 : attrD (foT T) (funcQ b.nm (b.qs.map Qm.par) (tyD b.t) b.rf b.st (visS b.vi) (flD b.ab b.fi) clsP0) 6515827 = some clsP0 := by kernel_rfl
  have aT1 : attrD (foT T) (funcQ s.nm (s.qs.map Qm.par) (tyD s.t) s.rf s.st (visS s.vi) (flD s.ab s.fi) clsP1) 1954115685 = some (tyD s.t) := by
    have e : attrD (foT T) (funcQ s.nm (s.qs.map Qm.par) (tyD s.t) s.rf s.st (visS s.vi) (flD s.ab s.fi) clsP1) 1954115685 = if notTop (tyD s.t) then some (tyD s.t) else none := by kernel_rfl
    rw [e, (tyOK_R hs.t).top]; rfl
  have aT2 : attrD (foT T) (funcQ b.nm (b.qs.map Qm.par) (tyD b.t) b.rf b.st (visS b.vi) (flD b.ab b.fi) clsP0) 1954115685 = some (tyD b.t) := by
    have e : attrD (foT T) (funcQ b.nm (b.qs.map Qm.par) (tyD b.t) b.rf b.st (visS b.vi) (flD b.ab b.fi) clsP0) 1954115685 = if notTop (tyD b.t) then some (tyD b.t) else none := by kernel_rfl
    rw [e, (tyOK_R hb.t).top]; rfl
  have N1 := ev_len_l (l := s.qs.map Qm.par) (by have := hs.qs.1; rw [List.length_map]; omega) (n + 5)
  have N2 := ev_len_l (l := b.qs.map Qm.par) (by have := hb.qs.1; rw [List.length_map]; omega) (n + 5)
  rw [List.length_map] at N1 N2
  show (lv T (n + 7)).f 7560217649441970628274785971812 [H, funcQ s.nm (s.qs.map Qm.par) (tyD s.t) s.rf s.st (visS s.vi) (flD s.ab s.fi) clsP1, funcQ b.nm (b.qs.map Qm.par) (tyD b.t) b.rf b.st (visS b.vi) (flD b.ab b.fi) clsP0, .lst valsL] = _
  generalize hS : funcQ s.nm (s.qs.map Qm.par) (tyD s.t) s.rf s.st (visS s.vi) (flD s.ab s.fi) clsP1 = S at *
  generalize hB : funcQ b.nm (b.qs.map Qm.par) (tyD b.t) b.rf b.st (visS b.vi) (flD b.ab b.fi) clsP0 = B at *
  have qm : ∀ {m : Md}, m.ok → ∀ q ∈ m.qs, ∃ p : Pm, p.ok ∧ q = p.q := fun hm q hq => by
    refine hide fun Gg kg => ?_
    obtain ⟨p, hp, rfl⟩ := List.mem_map.mp hq
    refine kg ?_; clear kg Gg
    exact ⟨p, (hm.ps p hp).1, rfl⟩
  have at_ : ∀ q : Qm, noneOrTup q.τ → attrD (foT T) q.par 1954115685 = some q.τ := fun q hq => by
    have e : attrD (foT T) q.par 1954115685 = if notTop q.τ then some q.τ else none := by kernel_rfl
    rw [e, hq.notTop]; rfl
  have TE : ∀ (p : Pm), p.ok → ∀ x ∈ valsL, ∀ c, (lv T (n + 6)).f nTk [H, p.q.τ, x, clsP c] = some (.bool (tk p.q.τ x c)) := fun p hp x hx c => tk_E p.v hp.1 hp.2 hx c H n
  have TR : ∀ t, t < 14 → ∀ x ∈ valsL, ∀ c, (lv T (n + 6)).f nTk [H, tyD t, x, clsP c] = some (.bool (tk (tyD t) x c)) := fun t ht x hx c => tk_R ht hx c H n
  have SE : ∀ (a p : Pm), a.ok → p.ok → wQ p.q a.q = true → ∀ x ∈ valsL, (tk a.q.τ x false && !tk p.q.τ x true) = false := fun a p ha hp h x hx => snd_E ha hp h hx
  have SR : ∀ x ∈ valsL, tk (tyD s.t) x true = true → tk (tyD b.t) x false = true := fun x hx h => snd_R hs.t hb.t p3 hx h
  have hV : valsL.length = 9 := rfl
  generalize valsL = V at *
  refine lvf (n := n + 6) (fn := f__law_is_sound) (by kernel_rfl) (ρ := [(1752134516, H), (7566690, S), (1650553701, B), (130160803538291, .lst V)]) (by kernel_rfl) ?_
  have hloop := forM_all (bf := fun ρ o => evB (lv T (n + 6)).f (lv T (n + 6)).m isiT (knT T) (foT T) (lv T (n + 6)).k (lv T (n + 6)).u b__law_is_sound_1 ρ o) (x := 107) (fun ρ => look ρ 1752134516 = some H ∧ look ρ 7566690 = some S ∧ look ρ 1650553701 = some B ∧ look ρ 130160803538291 = some (.lst V)) (fun _ => true) .none ((List.range 4).map fun (i : Nat) => .int i)
    [(1752134516, H), (7566690, S), (1650553701, B), (130160803538291, .lst V)] ⟨by kernel_rfl, by kernel_rfl, by kernel_rfl, by kernel_rfl⟩ fun d hd ρ hI => by
      refine hide fun Gg kg => ?_
      obtain ⟨i, hi, rfl⟩ := List.mem_map.mp hd
      have hi4 : i < 4 := List.mem_range.mp hi
      obtain ⟨l1, l2, l3, l4⟩ := hI
      refine kg ?_; clear kg Gg
      rw [if_pos rfl]
      have pn : ∀ q : Qm, cmpD .IsNot q.par .none = some true := fun q => by kernel_rfl
      have st1 : evS (lv T (n + 6)).f (lv T (n + 6)).m isiT (knT T) (foT T) (lv T (n + 6)).k (lv T (n + 6)).u (.asg2 418263299685 7305070 (.tup [.call 8097879367761224052 [.var 1650553701, .var 107], .call 8097879367761224052 [.var 7566690, .var 107]])) (put ρ 107 (.int i)) none = some (.next (put (put (put ρ 107 (.int i)) 418263299685 (optD Qm.par (atQ b.qs i))) 7305070 (optD Qm.par (atQ s.qs i))) none) :=
        s_asg2 (e_tup (e_es1 (e_call (e_es1 (e_var (lk_ne (by rfl) l3)) (e_es1 (e_var lk_eq) e_nil)) (P2 i hi4)) (e_es1 (e_call (e_es1 (e_var (lk_ne (by rfl) l2)) (e_es1 (e_var lk_eq) e_nil)) (P1 i hi4)) e_nil)) (by rfl)) (by rfl)
      have cA : ∀ x y : D, look (put (put (put ρ 107 (.int i)) 418263299685 x) 7305070 y) 418263299685 = some x := fun x y => lk_ne (by rfl) lk_eq
      have cO : ∀ x y : D, look (put (put (put ρ 107 (.int i)) 418263299685 x) 7305070 y) 7305070 = some y := fun x y => lk_eq
      have cI : ∀ x y : D, look (put (put (put ρ 107 (.int i)) 418263299685 x) 7305070 y) 107 = some (.int i) := fun x y => lk_ne (by rfl) (lk_ne (by rfl) lk_eq)
      have cR : ∀ x y : D, ∀ m z, Nat.beq m 107 = false → Nat.beq m 418263299685 = false → Nat.beq m 7305070 = false → look ρ m = some z → look (put (put (put ρ 107 (.int i)) 418263299685 x) 7305070 y) m = some z := fun x y m z e1 e2 e3 h => lk_ne e3 (lk_ne e2 (lk_ne e1 h))
      generalize hρ3 : (fun x y : D => put (put (put ρ 107 (.int i)) 418263299685 x) 7305070 y) = ρ3 at *
      have e3 : ∀ x y, put (put (put ρ 107 (.int i)) 418263299685 x) 7305070 y = ρ3 x y := fun x y => by rw [← hρ3]
      simp only [e3] at st1 cA cO cI cR
      have inv3 : ∀ x y, look (ρ3 x y) 1752134516 = some H ∧ look (ρ3 x y) 7566690 = some S ∧ look (ρ3 x y) 1650553701 = some B ∧ look (ρ3 x y) 130160803538291 = some (.lst V) := fun x y => ⟨cR x y _ _ (by rfl) (by rfl) (by rfl) l1, cR x y _ _ (by rfl) (by rfl) (by rfl) l2, cR x y _ _ (by rfl) (by rfl) (by rfl) l3, cR x y _ _ (by rfl) (by rfl) (by rfl) l4⟩
      have cond := e_and2 (e_cmp (op := .IsNot) (Γ := (lv T (n + 6)).f) (Γm := (lv T (n + 6)).m) (isi := isiT) (kn := knT T) (fo := foT T) (e_var (cA (optD Qm.par (atQ b.qs i)) (optD Qm.par (atQ s.qs i)))) e_none (isNot_none pn))
        (fun _ => e_or2 (e_cmp (op := .Lt) (e_var (cI _ _)) (e_call (f := 7103854) (e_es1 (e_attr (e_var (inv3 _ _).2.1) aP1) e_nil) N1) (lt_int i _)) fun _ => e_cmp (op := .Lt) (e_var (cI _ _)) (e_call (f := 7103854) (e_es1 (e_attr (e_var (inv3 _ _).2.2.1) aP2) e_nil) N2) (lt_int i _))
      cases hc : ((atQ b.qs i).isSome && (decide (i < s.qs.length) || decide (i < b.qs.length))) with
      | false =>
        rw [hc] at cond
        exact ⟨_, .inl (b_next st1 (b_next (s_iteF cond b_nil) b_nil)), inv3 _ _⟩
      | true =>
        rw [hc] at cond
        rw [Bool.and_eq_true, Bool.or_eq_true, decide_eq_true_eq, decide_eq_true_eq] at hc
        have hok := p2 i hc.2
        cases hA : atQ b.qs i with
        | none => rw [hA] at hc; cases hc.1
        | some a =>
          cases hO : atQ s.qs i with
          | none => unfold okAt at hok; rw [hA, hO] at hok; cases hok
          | some o =>
            have hpf : ((o.r == a.r) && wQ o a) = true := by unfold okAt at hok; rw [hA, hO] at hok; exact hok
            rw [Bool.and_eq_true] at hpf
            rw [hA, hO] at st1 cond
            refine hide fun Gg kg => ?_
            obtain ⟨pa, oa, rfl⟩ := qm hb a (atQ_mem hA)
            obtain ⟨po, oo, rfl⟩ := qm hs o (atQ_mem hO)
            refine kg ?_; clear kg Gg
            have ta := at_ pa.q (eT_tup pa.v oa.1 oa.2)
            have to := at_ po.q (eT_tup po.v oo.1 oo.2)
            have hin := forM_all (bf := fun ρ o => evB (lv T (n + 6)).f (lv T (n + 6)).m isiT (knT T) (foT T) (lv T (n + 6)).k (lv T (n + 6)).u b__law_is_sound_0 ρ o) (x := 508440638821) (fun ρ => (look ρ 1752134516 = some H ∧ look ρ 7566690 = some S ∧ look ρ 1650553701 = some B ∧ look ρ 130160803538291 = some (.lst V)) ∧ look ρ 418263299685 = some pa.q.par ∧ look ρ 7305070 = some po.q.par) (fun _ => true) .none V
              (ρ3 pa.q.par po.q.par) ⟨inv3 _ _, cA _ _, cO _ _⟩ fun x hx ρ hI => by
                refine hide fun Gg kg => ?_
                obtain ⟨⟨l1, l2, l3, l4⟩, l5, l6⟩ := hI
                refine kg ?_; clear kg Gg
                rw [if_pos rfl]
                have c1 := e_and2 (Γ := (lv T (n + 6)).f) (Γm := (lv T (n + 6)).m) (isi := isiT) (kn := knT T) (fo := foT T) (ρ := put ρ 508440638821 x)
                  (e_call (f := nTk) (l := [.var 1752134516, .attr (.var 418263299685) 1954115685, .var 508440638821, .attr (.var 1650553701) 6515827]) (e_es1 (e_var (lk_ne (by rfl) l1)) (e_es1 (e_attr (e_var (lk_ne (by rfl) l5)) ta) (e_es1 (e_var lk_eq) (e_es1 (e_attr (e_var (lk_ne (by rfl) l3)) aK2) e_nil)))) (TE pa oa x hx false))
                  fun _ => e_not (e_call (f := nTk) (l := [.var 1752134516, .attr (.var 7305070) 1954115685, .var 508440638821, .attr (.var 7566690) 6515827]) (e_es1 (e_var (lk_ne (by rfl) l1)) (e_es1 (e_attr (e_var (lk_ne (by rfl) l6)) to) (e_es1 (e_var lk_eq) (e_es1 (e_attr (e_var (lk_ne (by rfl) l2)) aK1) e_nil)))) (TE po oo x hx true))
                rw [SE pa po oa oo hpf.2 x hx] at c1
                exact ⟨_, .inl (b_next (s_iteF c1 b_nil) b_nil), ⟨lk_ne (by rfl) l1, lk_ne (by rfl) l2, lk_ne (by rfl) l3, lk_ne (by rfl) l4⟩, lk_ne (by rfl) l5, lk_ne (by rfl) l6⟩
            have all_t : V.all (fun _ => true) = true := by simp
            rw [all_t, if_pos rfl] at hin
            refine hide fun Gg kg => ?_
            obtain ⟨ρ', g1, g2, _, _⟩ := hin
            refine kg ?_; clear kg Gg
            exact ⟨ρ', .inl (b_next st1 (b_next (s_iteT cond (b_next (s_for (e_var (inv3 _ _).2.2.2) rfl (Nat.ble_eq_true_of_le (by omega)) g1) b_nil)) b_nil)), g2⟩
  have all_t : ((List.range 4).map fun (i : Nat) => D.int i).all (fun _ => true) = true := by simp
  rw [all_t, if_pos rfl] at hloop
  refine hide fun Gg kg => ?_
  obtain ⟨ρ1, g1, l1, l2, l3, l4⟩ := hloop
  refine kg ?_; clear kg Gg
  refine b_next (s_for (src := .rng 4) (by kernel_rfl) (items_rng (by decide)) (by rfl) g1) ?_
  refine b_next (s_asg (e_comp (src := .lst V) (ds := V) (rs := V.filter fun x => tk (tyD s.t) x true) (e_var l4) rfl (Nat.ble_eq_true_of_le (by omega)) (k_filter (g := fun x => tk (tyD s.t) x true) V fun x hx => ⟨?_, e_var lk_eq⟩))) ?_
  · exact ts_1 (e_call (f := nTk) (e_es1 (e_var (lk_ne (by rfl) l1)) (e_es1 (e_attr (e_var (lk_ne (by rfl) l2)) aT1) (e_es1 (e_var lk_eq) (e_es1 (e_attr (e_var (lk_ne (by rfl) l2)) aK1) e_nil)))) (TR s.t hs.t x hx true))
  · refine b_ret (s_ret ?_)
    have hle : decide (reqQ s.qs ≤ reqQ b.qs) = true := decide_eq_true p1
    have hfl : (V.filter fun x => tk (tyD s.t) x true).length ≤ 1000 := by
      have := List.length_filter_le (fun x => tk (tyD s.t) x true) V
      omega
    refine Eq.trans (e_and2 (b := decide (reqQ s.qs ≤ reqQ b.qs)) (c := true) (e_cmp (e_call (e_es1 (e_var (lk_ne (by rfl) l2)) e_nil) R1) (e_call (e_es1 (e_var (lk_ne (by rfl) l3)) e_nil) R2) (le_int _ _)) fun _ => e_call (f := 6384748) (e_es1 (e_comp (src := .lst (V.filter fun x => tk (tyD s.t) x true)) (e_var lk_eq) rfl (Nat.ble_eq_true_of_le hfl) (k_all _ fun x hx => ⟨by kernel_rfl, ?_⟩)) e_nil) (ev_all _ (n + 5))) (by rw [hle]; rfl)
    obtain ⟨hx1, hx2⟩ := List.mem_filter.mp hx
    have := TR b.t hb.t x hx1 false
    rw [SR x hx1 hx2] at this
    exact e_call (f := nTk) (e_es1 (e_var (lk_ne (by rfl) (lk_ne (by rfl) l1))) (e_es1 (e_attr (e_var (lk_ne (by rfl) (lk_ne (by rfl) l3))) aT2) (e_es1 (e_var lk_eq) (e_es1 (e_attr (e_var (lk_ne (by rfl) (lk_ne (by rfl) l3))) aK2) e_nil)))) this
end Mine
end

section
open PySem PySem.W PyProof.Rows PySem.Calls
set_option maxRecDepth 100000
namespace Mine

theorem ne_self (a : Str) : cmpD .NotEq (.str a) (.str a) = some false := by
  show (some (a == a)).map (fun x => !x) = _
  rw [beq_self_eq_true]; rfl
noncomputable def rho5 (xs l : List D) (nm : Str) (s b : Md) : List (Nat × D) := [(126870958469236, .lst xs), (1919907699, .lst rows9), (431415719795, .lst l), (1851878757, .str nm), (8319664048651068517, s.node), (2129833996420263274355, s.flags), (1814802986928085886053, b.node), (464589564653555576563571, b.flags)]
noncomputable def rho12 (xs l : List D) (nm : Str) (sn sf bn bf H S B : D) : List (Nat × D) := [(126870958469236, .lst xs), (1919907699, .lst rows9), (431415719795, .lst l), (1851878757, .str nm), (8319664048651068517, sn), (2129833996420263274355, sf), (1814802986928085886053, bn), (464589564653555576563571, bf), (1752134516, H), (7566690, S), (1650553701, B)]
theorem ev_lawB {s b : Md} (hs : s.ok) (hb : b.ok) {c : Bool} (hn : s.nm = nmS c) (hn' : b.nm = nmS c) (xs l : List D) (nm : Str) (al : Bool) :
    evB0 L.f L.m isiT (knT T) (foT T) L.k L.u lawB (put (rho5 xs l nm s b) 1752134516 (hostT al)) = some (rho12 xs l nm s.node s.flags b.node b.flags (hostT al) (s.func clsP1) (b.func clsP0)) := by
  have F1 : L.f 28839564598538086 [s.node, clsP1, s.flags] = some (s.func clsP1) := ev_func_of hs clsP1 12
  have F2 : L.f 28839564598538086 [b.node, clsP0, b.flags] = some (b.func clsP0) := ev_func_of hb clsP0 12
  have W1 : L.f 483847604615661271278707 [s.func clsP1] = some (.str (mW s true)) := ev_func_words hs hn true 10
  have W2 : L.f 483847604615661271278707 [b.func clsP0] = some (.str (mW b false)) := ev_func_words hb hn' false 10
  have V1 : L.f 450624087419687409968243 [s.node, .str ⟨#[80, 49]⟩] = some (.str (mW s true)) := ev_law_words hs hn true 13
  have V2 : L.f 450624087419687409968243 [b.node, .str ⟨#[80, 48]⟩] = some (.str (mW b false)) := ev_law_words hb hn' false 13
  have hc1 : ∃ d, attrD (foT T) (hostT al) 27985188498924915 = some d ∧ itemD d (.str ⟨#[112, 49]⟩) = some clsP1 ∧ itemD d (.str ⟨#[112, 48]⟩) = some clsP0 := by
    cases al
    · exact ⟨.dct (klsD nKlass nPar (lowS sP0) (lowS sP1) (lowS sOther) (kfsS sP0) (kfsS sP1) (kfsS sOther)), by kernel_rfl, by kernel_rfl, by kernel_rfl⟩
    · exact ⟨.dct ((pLaw.cl, .top nLC) :: klsD nKlass nPar (lowS sP0) (lowS sP1) (lowS sOther) (kfsS sP0) (kfsS sP1) (kfsS sOther)), by kernel_rfl, by kernel_rfl, by kernel_rfl⟩
  refine hide fun Gg kg => ?_
  obtain ⟨dc, a1, a2, a3⟩ := hc1
  refine kg ?_; clear kg Gg
  unfold rho5
  generalize s.node = sn at *
  generalize b.node = bn at *
  generalize s.flags = sf at *
  generalize b.flags = bf at *
  generalize s.func clsP1 = S at *
  generalize b.func clsP0 = B at *
  generalize hostT al = H at *
  refine evB0_next (s_asg (e_call (e_es1 (e_var (by kernel_rfl)) (e_es1 (e_item (e_attr (e_var (by kernel_rfl)) a1) e_str a2) (e_es1 (e_var (by kernel_rfl)) e_nil))) F1)) ?_
  refine evB0_next (s_asg (e_call (e_es1 (e_var (by kernel_rfl)) (e_es1 (e_item (e_attr (e_var (by kernel_rfl)) a1) e_str a3) (e_es1 (e_var (by kernel_rfl)) e_nil))) F2)) ?_
  refine evB0_next (s_iteF (e_or2 (b := false) (c := false) (e_cmp (e_call (e_es1 (e_var (by kernel_rfl)) e_nil) W1) (e_call (e_es1 (e_var (by kernel_rfl)) (e_es1 e_str e_nil)) V1) (ne_self _)) fun _ => e_cmp (e_call (e_es1 (e_var (by kernel_rfl)) e_nil) W2) (e_call (e_es1 (e_var (by kernel_rfl)) (e_es1 e_str e_nil)) V2) (ne_self _)) b_nil) ?_
  kernel_rfl
theorem ev_method_fits {s b : Md} (hs : s.ok) (hb : b.ok) (al : Bool) (n : Nat) : (lv T (n + 9)).f 132252020700420827779789939 [hostT al, s.func clsP1, b.func clsP0] = some (.bool (fitP s b)) := by
  have F := ev_fits hs hb al (k := clsP1) (k' := clsP0) n
  have aK1 : attrD (foT T) (s.func clsP1) 6515827 = some clsP1 := by kernel_rfl
  have aK2 : attrD (foT T) (b.func clsP0) 6515827 = some clsP0 := by kernel_rfl
  generalize s.func clsP1 = S at *
  generalize b.func clsP0 = B at *
  generalize hostT al = H at *
  refine lvf (n := n + 8) (fn := f_method_fits) (by kernel_rfl) (ρ := [(1752134516, H), (7566690, S), (1650553701, B)]) (by kernel_rfl) ?_
  exact b_ret (s_ret (e_call (e_es1 (e_var (by kernel_rfl)) (e_es1 (e_var (by kernel_rfl)) (e_es1 (e_attr (e_var (by kernel_rfl)) aK1) (e_es1 (e_var (by kernel_rfl)) (e_es1 (e_attr (e_var (by kernel_rfl)) aK2) e_nil))))) F))
theorem ev_vals (xs l : List D) (nm : Str) (sn sf bn bf S B : D) (al f : Bool) : evE L.f L.m isiT (knT T) (foT T) (.bin .Add (.lst [.int 1, .str ⟨#[120]⟩, .bool true, .bool false, .none, .call 4289138 []]) (.comp (.call 5202538 [.item (.attr (.var 1752134516) 27985188498924915) (.var 7038329), .int 1]) 7038329 (.tup [.str ⟨#[112, 48]⟩, .str ⟨#[112, 49]⟩, .str ⟨#[111, 116, 104, 101, 114]⟩]) [])) (put (rho12 xs l nm sn sf bn bf (hostT al) S B) 115944242702708 (.bool f)) = some (.lst valsL) := by
  cases al <;> kernel_rfl
theorem ev_lawC {s b : Md} (hs : s.ok) (hb : b.ok) (xs l : List D) (nm : Str) (al : Bool) :
    evB L.f L.m isiT (knT T) (foT T) L.k L.u lawC (rho12 xs l nm s.node s.flags b.node b.flags (hostT al) (s.func clsP1) (b.func clsP0)) none = some (.ret (.bool true)) := by
  have F : L.f 132252020700420827779789939 [hostT al, s.func clsP1, b.func clsP0] = some (.bool (fitP s b)) := ev_method_fits hs hb al 7
  have G : L.f 1760250341482868339827 [s.node, b.node] = some (.bool (fitP s b)) := ev_lfits hs hb 9
  have SN : fitP s b = true → L.f 7560217649441970628274785971812 [hostT al, s.func clsP1, b.func clsP0, .lst valsL] = some (.bool true) := fun h => ev_sound hs hb h (hostT al) 9
  have V := ev_vals xs l nm s.node s.flags b.node b.flags (s.func clsP1) (b.func clsP0) al (fitP s b)
  generalize s.node = sn at *
  generalize b.node = bn at *
  generalize s.flags = sf at *
  generalize b.flags = bf at *
  generalize s.func clsP1 = S at *
  generalize b.func clsP0 = B at *
  generalize hostT al = H at *
  generalize valsL = VL at *
  generalize fitP s b = ft at *
  refine b_next (s_asg (e_call (e_es1 (e_var (by kernel_rfl)) (e_es1 (e_var (by kernel_rfl)) (e_es1 (e_var (by kernel_rfl)) e_nil))) F)) ?_
  refine b_next (s_iteF (e_cmp (x := .bool ft) (y := .bool ft) (e_var (by kernel_rfl)) (e_call (e_es1 (e_var (by kernel_rfl)) (e_es1 (e_var (by kernel_rfl)) e_nil)) G) ((ne_bool ft ft).trans (by cases ft <;> rfl))) b_nil) ?_
  refine b_next (s_asg V) ?_
  refine b_ret (s_ret (Eq.trans (e_or2 (b := !ft) (c := true) (e_not (e_var (by kernel_rfl))) fun h => ?_) (by cases ft <;> rfl)))
  exact e_call (e_es1 (e_var (by kernel_rfl)) (e_es1 (e_var (by kernel_rfl)) (e_es1 (e_var (by kernel_rfl)) (e_es1 (e_var (by kernel_rfl)) e_nil)))) (SN (by cases ft; cases h; rfl))
theorem plain (xs : List Int) (hx : xs.length ≤ 63) : LawRun L.f L.m isiT (knT T) (foT T) L.k L.u (lvX T nCF X N) pLaw f__law_fault_told [.var 1752134516, .var 7566690, .var 1650553701] 30765223050532539336692887396 (hostOf pLaw names3 lowS kfsS) xs := by
  refine hide fun Gg kg => ?_
  obtain ⟨l, nm, s, b, ⟨⟨c, hnm⟩, n1, n2, hs, hb⟩, e⟩ := ev_lawA xs hx
  refine kg ?_; clear kg Gg
  have hn : s.nm = nmS c := n1.trans hnm
  have hn' : b.nm = nmS c := n2.trans hnm
  refine ⟨rho5 (xs.map .int) l nm s b, e, by kernel_rfl, by kernel_rfl, fun al => ?_⟩
  refine hide fun Gg kg => ?_
  obtain ⟨out, m, f1, f2, f3⟩ := ev_fault hs hb hn hn' al 6
  refine kg ?_; clear kg Gg
  have f3' : L.f nLF [s.node, s.flags, b.node, b.flags] = some (.str m) := f3 8
  exact ⟨rho12 (xs.map .int) l nm s.node s.flags b.node b.flags (hostT al) (s.func clsP1) (b.func clsP0), [hostT al, s.func clsP1, b.func clsP0], [(1752134516, hostT al), (7566690, s.func clsP1), (1650553701, b.func clsP0)], [hostT al, s.func clsP1, b.func clsP0], out, m, ev_lawB hs hb hn hn' _ _ _ al, by kernel_rfl, by kernel_rfl, by kernel_rfl, f1, f2, e_call (f := nLF) (ds := [s.node, s.flags, b.node, b.flags]) (by kernel_rfl) f3', ev_lawC hs hb _ _ _ al⟩
end Mine
end

theorem PySem.Challenge.cw_pq0863_01_holds : PySem.Challenge.rw_pq0863_01.Holds :=
  Mine.holds_of Mine.plain
