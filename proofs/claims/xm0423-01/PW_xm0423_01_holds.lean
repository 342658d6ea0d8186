import PyProof.Rows.All
import Wide.All
import OpenK.AllK
import Wide.FinOn
import Lean
import PySem.Challenge.RW_xm0423_01
open PySem PySem.W PyProof.Rows
set_option Elab.async false
set_option rowWalk.seconds 0

section
open PySem PySem.W PyProof.Rows
namespace Mine
set_option synthInstance.maxSize 1 in
set_option maxRecDepth 100000 in
set_option maxHeartbeats 8000000 in
open_top hd for PySem.Challenge.rw_xm0423_01
end Mine
end

section
open PySem PySem.W PyProof.Rows
namespace Mine
noncomputable abbrev PR : Program := PySem.Challenge.rw_xm0423_01.row.prog
noncomputable abbrev VW := hd.view_39
noncomputable abbrev LW := looseW VW []
end Mine
end

section
open PySem PySem.W PyProof.Rows PySem.Calls
namespace Mine

structure Go : Prop where
  t : True
def Stop (P : Prop) : Prop := P
theorem Stop.out {P : Prop} (h : Stop P) : P := h

theorem enter {prog : Program} {w : World} {A₀ : Around} {s : Shared} {base h₀ : Heap} {outer : List Env} {L : Addr} {m : Str → Option Value} {K : Frag}
    {dp un : Nat} {gd : Option (List Code)} {cn : Str} {cs : Scope} {a : Addr} {ccd : Value} {cl : List (Str × Addr)}
    {p : Program} {loose : List Str} {mean : ExcName → Option Value} {mg mb : Str → Option Value}
    {Q E : Value → Shared → Prop} {name qual : Str} {params : Arguments} {body : List Stmt} {scope : Scope} {dV kV doc pm cdv ct oc : Value} {an od : Option Addr} {osl : Array (Option Value)} {f : Addr} {args : List Value} {binds : List (Str × Value)}
    (B : Below A₀ base outer h₀) (F : Fr h₀ L s.heap m) (X : K.In h₀) (T : Top p loose mean mg mb h₀) (hk : cs.kind = .function)
    (ho : K.lookup f = some ⟨oc, od, .func (fnOf name qual params body scope dV kV doc pm an cdv ct), osl⟩) (hcd : codeIn K cdv qual = true) (hroom : dp < recursionLimit)
    (hbind : BindsTo s (fnOf name qual params body scope dV kV doc pm an cdv ct) ⟨args, []⟩ binds) (hloc : ∀ y ∈ binds, scope.names.lookup y.1 = some .local)
    (hco : scope.isCoroutine = false) (hgen : scope.isGenerator = false) (hkf : scope.kind = .function)
    (hcell : ∀ x ∈ scope.names, x.2 ≠ .cell)
    (h : ∀ g L' h₁, g = s.heap → Fr g L' h₁ (fun y => binds.reverse.lookup y) → News g L' h₁ [] → Below (ktrTop dp un gd cn cs L a ccd cl outer) base (envX cn cs L a ccd cl :: outer) g → K.In g → Top p loose mean mg mb g →
      wpAny (model prog w) (ktrTop (dp + 1) (un + 3) gd qual scope L' f cdv [] (envX cn cs L a ccd cl :: outer)) (execs body (envOf qual scope L' f cdv))
        (fun fl s' => Q (match fl with | .ret v => v | _ => .none) s') (fun _ _ => False)
        { s with heap := h₁, toks := s.toks + binds.length }) :
    wpAny (model prog w) (ktrTop dp un gd cn cs L a ccd cl outer) (call (.ref f) args) Q E s := by
  refine wpAny_call ?_
  refine codeAny_call_def (fd := fnOf name qual params body scope dV kV doc pm an cdv ct) (body := body) (binds := binds) hroom (X.keeps F.keep _ _ ho) rfl (T.nolimit.keeps F.keep) (codeRec_of (X.keeps F.keep) hcd) rfl hbind hcell hloc (fun h₁ hns hk₁ => ?_) hco hgen hkf
  have B1 := pushX (env := envX cn cs L a ccd cl) B F rfl hk
  have B' : Below (ktrTop dp un gd cn cs L a ccd cl outer) base (envX cn cs L a ccd cl :: outer) s.heap := ⟨rfl, B1.stays, B1.frames⟩
  exact wpAny_mono (h _ s.heap.objs.size h₁ rfl ⟨hns, hk₁, Nat.le_refl _⟩ News.nil B' (X.keeps F.keep) (T.keeps F.keep)) (fun fl s' hl => hl) fun _ _ y => y.elim

theorem newsAdd {h₀ h h' : Heap} {L r : Addr} {m : Str → Option Value} {news : List (Addr × Obj)} {o : Obj} (F : Fr h₀ L h m) (N : News h₀ L h news)
    (e : ∀ b o, h.get? b = some o → h'.get? b = some o) (hr : h'.get? r = some o) (hn : h.get? r = none) : News h₀ L h' ((r, o) :: news) := by
  intro p hp
  rcases List.mem_cons.mp hp with rfl | hp
  · refine ⟨hr, fun q => ?_, ?_⟩
    · obtain ⟨oL, _, _, hL, _⟩ := F.ns
      rw [← q, hn] at hL; cases hL
    · cases q : h₀.get? r with
      | none => rfl
      | some o => have := F.keep _ _ q; rw [hn] at this; cases this
  · exact News.keepsAll N e p hp
theorem newsNe {h₀ h : Heap} {L r : Addr} {news : List (Addr × Obj)} (N : News h₀ L h news) (hn : h.get? r = none) : ∀ p ∈ news, p.1 ≠ r := fun p hp q => by
  have := (N p hp).1; rw [q, hn] at this; cases this
end Mine
end

section
namespace Mine

def val (W : Nat) : List Int → Int
  | [] => 0
  | x :: xs => x + 2 ^ W * val W xs
def Dig (W : Nat) (l : List Int) : Prop := ∀ x ∈ l, 0 ≤ x ∧ x < 2 ^ W
def limbs (W n : Nat) : List Int :=
  if h : n = 0 ∨ W = 0 then [] else ((n % 2 ^ W : Nat) : Int) :: limbs W (n / 2 ^ W)
termination_by n
decreasing_by
  have h1 : 1 < 2 ^ W := Nat.one_lt_two_pow (by omega)
  exact Nat.div_lt_self (by omega) h1

theorem powNat (W : Nat) : ((2 ^ W : Nat) : Int) = 2 ^ W := by simp
theorem powPos (W : Nat) : (0 : Int) < 2 ^ W := by have := powNat W; have := Nat.two_pow_pos W; omega
theorem powGt (W : Nat) (h : 0 < W) : (1 : Int) < 2 ^ W := by have := powNat W; have := Nat.one_lt_two_pow (n := W) (by omega); omega

theorem val_append (W : Nat) (l r : List Int) : val W (l ++ r) = val W l + 2 ^ (W * l.length) * val W r := by
  induction l with
  | nil => simp [val]
  | cons x xs ih =>
    simp only [List.cons_append, val, ih, List.length_cons, Nat.mul_add, Nat.mul_one, Int.pow_add]
    grind
theorem val_snoc (W : Nat) (l : List Int) (x : Int) : val W (l ++ [x]) = val W l + 2 ^ (W * l.length) * x := by
  rw [val_append]; simp [val]
theorem val_set (W : Nat) : ∀ (l : List Int) (i : Nat) (x : Int), i < l.length → val W (l.set i x) = val W l + 2 ^ (W * i) * (x - l.getD i 0)
  | [], i, x, h => by simp at h
  | y :: ys, 0, x, _ => by simp [val]; omega
  | y :: ys, i + 1, x, h => by
    have ih := val_set W ys i x (by simpa using h)
    simp only [List.set_cons_succ, val, ih, List.getD_cons_succ, Nat.mul_add, Nat.mul_one, Int.pow_add]
    grind
theorem Dig.nil (W : Nat) : Dig W [] := fun _ h => nomatch h
theorem Dig.tail {W : Nat} {x : Int} {l : List Int} (h : Dig W (x :: l)) : Dig W l := fun y hy => h y (.tail _ hy)
theorem Dig.append {W : Nat} {l r : List Int} (h : Dig W l) (h' : Dig W r) : Dig W (l ++ r) := fun y hy => (List.mem_append.mp hy).elim (h y) (h' y)
theorem Dig.snoc {W : Nat} {l : List Int} {x : Int} (h : Dig W l) (h0 : 0 ≤ x) (h1 : x < 2 ^ W) : Dig W (l ++ [x]) :=
  h.append fun y hy => by rw [List.mem_singleton.mp hy]; exact ⟨h0, h1⟩
theorem Dig.getD {W : Nat} {l : List Int} (h : Dig W l) (i : Nat) : 0 ≤ l.getD i 0 ∧ l.getD i 0 < 2 ^ W := by
  rw [List.getD_eq_getElem?_getD]
  cases e : l[i]? with
  | none => exact ⟨Int.le_refl _, powPos W⟩
  | some x => exact h x (List.mem_of_getElem? e)
theorem Dig.take {W : Nat} {l : List Int} (h : Dig W l) (i : Nat) : Dig W (l.take i) := fun y hy => h y (List.mem_of_mem_take hy)
theorem Dig.set {W : Nat} {l : List Int} (h : Dig W l) (i : Nat) {x : Int} (h0 : 0 ≤ x) (h1 : x < 2 ^ W) : Dig W (l.set i x) := fun y hy => by
  rcases List.mem_or_eq_of_mem_set hy with q | q
  · exact h y q
  · rw [q]; exact ⟨h0, h1⟩
theorem Dig.val_nonneg {W : Nat} {l : List Int} (h : Dig W l) : 0 ≤ val W l := by
  induction l with
  | nil => simp [val]
  | cons x xs ih =>
    have := ih h.tail
    have := h x (.head _)
    simp only [val]
    exact Int.add_nonneg this.1 (Int.mul_nonneg (Int.le_of_lt (powPos W)) ‹0 ≤ val W xs›)
theorem Dig.val_lt {W : Nat} {l : List Int} (h : Dig W l) : val W l < 2 ^ (W * l.length) := by
  induction l with
  | nil => simp [val]
  | cons x xs ih =>
    have := ih h.tail
    have := h x (.head _)
    simp only [val, List.length_cons, Nat.mul_add, Nat.mul_one, Int.pow_add]
    have : 2 ^ W * (val W xs + 1) ≤ 2 ^ W * 2 ^ (W * xs.length) := Int.mul_le_mul_of_nonneg_left (by omega) (Int.le_of_lt (powPos W))
    grind

theorem limbs_zero (W : Nat) : limbs W 0 = [] := by rw [limbs]; simp
theorem limbs_pos {W n : Nat} (hn : 0 < n) (hW : 0 < W) : limbs W n = ((n % 2 ^ W : Nat) : Int) :: limbs W (n / 2 ^ W) := by rw [limbs]; simp; omega
theorem limbs_ind {P : Nat → Prop} {W : Nat} (hW : 0 < W) (h0 : P 0) (hs : ∀ n, 0 < n → P (n / 2 ^ W) → P n) (n : Nat) : P n := by
  induction n using Nat.strongRecOn with
  | ind n ih =>
    rcases Nat.eq_zero_or_pos n with rfl | h
    · exact h0
    · exact hs n h (ih _ (Nat.div_lt_self h (Nat.one_lt_two_pow (by omega))))
theorem limbs_dig {W : Nat} (hW : 0 < W) (n : Nat) : Dig W (limbs W n) := by
  induction n using limbs_ind hW with
  | h0 => rw [limbs_zero]; exact Dig.nil _
  | hs n h ih =>
    rw [limbs_pos h hW]
    intro x hx
    rcases List.mem_cons.mp hx with rfl | hx
    · have := Nat.mod_lt n (Nat.two_pow_pos W); have := powNat W; omega
    · exact ih x hx
theorem limbs_val {W : Nat} (hW : 0 < W) (n : Nat) : val W (limbs W n) = n := by
  induction n using limbs_ind hW with
  | h0 => rw [limbs_zero]; rfl
  | hs n h ih =>
    rw [limbs_pos h hW, val, ih]
    have := Nat.mod_add_div n (2 ^ W)
    have e := powNat W
    rw [← e]; norm_cast
theorem limbs_top {W : Nat} (hW : 0 < W) (n : Nat) : limbs W n ≠ [] → (2 : Int) ^ (W * ((limbs W n).length - 1)) ≤ n := by
  induction n using limbs_ind hW with
  | h0 => intro h; exact absurd (limbs_zero W) h
  | hs n h ih =>
    intro _
    rw [limbs_pos h hW]
    simp only [List.length_cons, Nat.add_sub_cancel]
    by_cases e : limbs W (n / 2 ^ W) = []
    · rw [e]; simp; omega
    · have i := ih e
      have hl : (limbs W (n / 2 ^ W)).length = (limbs W (n / 2 ^ W)).length - 1 + 1 := by
        have := List.length_pos_iff.mpr e; omega
      rw [hl, Nat.mul_add, Nat.mul_one, Int.pow_add]
      have h2 := Nat.div_mul_le_self n (2 ^ W)
      have h3 : (2 : Int) ^ (W * ((limbs W (n / 2 ^ W)).length - 1)) * 2 ^ W ≤ ((n / 2 ^ W : Nat) : Int) * 2 ^ W := Int.mul_le_mul_of_nonneg_right i (Int.le_of_lt (powPos W))
      have h4 : (((n / 2 ^ W : Nat) : Int)) * 2 ^ W ≤ n := by rw [← powNat W]; norm_cast
      omega

/-- the written form of a number is the only one -/
theorem limbs_unique {W : Nat} (hW : 0 < W) : ∀ (l : List Int) (n : Nat), Dig W l → val W l = n → (l ≠ [] → (2 : Int) ^ (W * (l.length - 1)) ≤ n) → l = limbs W n
  | [], n, _, hv, _ => by
    have : n = 0 := by simp [val] at hv; omega
    rw [this, limbs_zero]
  | x :: xs, n, hd, hv, ht => by
    have hx := hd x (.head _)
    have hp := powPos W
    have hvn := hd.tail.val_nonneg
    have h1 := ht (by simp)
    have hn : 0 < n := by
      have : (0 : Int) < 2 ^ (W * ((x :: xs).length - 1)) := powPos _
      omega
    simp only [val] at hv
    obtain ⟨k, hk⟩ : ∃ k : Nat, val W xs = k := ⟨(val W xs).toNat, by omega⟩
    obtain ⟨y, hy⟩ : ∃ y : Nat, x = y := ⟨x.toNat, by omega⟩
    subst hy
    rw [hk] at hv
    have hv' : y + 2 ^ W * k = n := by have := powNat W; rw [← this] at hv; exact_mod_cast hv
    have hyl : y < 2 ^ W := by have := powNat W; omega
    have hmod : n % 2 ^ W = y := by rw [← hv', Nat.add_mul_mod_self_left]; exact Nat.mod_eq_of_lt hyl
    have hdiv : n / 2 ^ W = k := by rw [← hv', Nat.add_mul_div_left _ _ (Nat.two_pow_pos W), Nat.div_eq_of_lt hyl]; omega
    rw [limbs_pos hn hW, hmod, hdiv]
    congr 1
    refine limbs_unique hW xs k hd.tail hk fun hne => ?_
    have hl : xs.length = xs.length - 1 + 1 := by have := List.length_pos_iff.mpr hne; omega
    have h2 : (2 : Int) ^ (W * xs.length) ≤ n := by simpa using h1
    rw [hl, Nat.mul_add, Nat.mul_one, Int.pow_add] at h2
    have hnlt : (n : Int) < (k + 1) * 2 ^ W := by
      have : n < (k + 1) * 2 ^ W := by rw [← hv']; have := Nat.mul_comm k (2 ^ W); have := Nat.add_mul k 1 (2 ^ W); omega
      have e := powNat W
      rw [← e]; exact_mod_cast this
    have h3 : (2 : Int) ^ (W * (xs.length - 1)) * 2 ^ W < (k + 1) * 2 ^ W := by omega
    have := Int.lt_of_mul_lt_mul_right h3 (Int.le_of_lt hp)
    omega
theorem limbs_len_le {W n c : Nat} (hW : 0 < W) (h : n < 2 ^ (W * c)) : (limbs W n).length ≤ c := by
  by_cases e : limbs W n = []
  · rw [e]; simp
  · have h1 := limbs_top hW n e
    have h2 : (2 : Int) ^ (W * ((limbs W n).length - 1)) < 2 ^ (W * c) := by
      have := powNat (W * c); omega
    have h3 : 2 ^ (W * ((limbs W n).length - 1)) < 2 ^ (W * c) := by exact_mod_cast h2
    have h4 := (Nat.pow_lt_pow_iff_right (by decide : 1 < 2)).mp h3
    have := Nat.lt_of_mul_lt_mul_left h4
    omega
/-- ns is the written form of x: digits, its value, its top digit not nought -/
structure Canon (W x : Nat) (ns : List Int) : Prop where
  dig : Dig W ns
  val : val W ns = x
  top : ns ≠ [] → (2 : Int) ^ (W * (ns.length - 1)) ≤ x
theorem Canon.eq {W x : Nat} {ns : List Int} (hW : 0 < W) (h : Canon W x ns) : ns = limbs W x := limbs_unique hW _ _ h.dig h.val h.top
theorem Canon.unique {W x : Nat} {ns ms : List Int} (hW : 0 < W) (h : Canon W x ns) (h' : Canon W x ms) : ns = ms := (h.eq hW).trans (h'.eq hW).symm
theorem Canon.len {W x c : Nat} {ns : List Int} (hW : 0 < W) (h : Canon W x ns) (hx : x < 2 ^ (W * c)) : ns.length ≤ c := by rw [h.eq hW]; exact limbs_len_le hW hx
theorem Canon.len30 {W x : Nat} {ns : List Int} (hW : 3 ≤ W) (h : Canon W x ns) (hx : x < 1073741824) : ns.length ≤ 10 :=
  h.len (by omega) (Nat.lt_of_lt_of_le hx (Nat.pow_le_pow_right (by decide : 2 > 0) (by omega : 30 ≤ W * 10)))
theorem Canon.nil {W : Nat} : Canon W 0 [] := ⟨Dig.nil _, rfl, fun h => absurd rfl h⟩
theorem Canon.pos {W x : Nat} {ns : List Int} (h : Canon W x ns) : 0 < ns.length ↔ 0 < x := by
  constructor
  · intro q
    have := h.top (List.length_pos_iff.mp q)
    have := powPos (W * (ns.length - 1))
    omega
  · intro q
    rcases Nat.eq_zero_or_pos ns.length with e | e
    · have := List.length_eq_zero_iff.mp e
      have v := h.val
      rw [this] at v; simp [Mine.val] at v; omega
    · exact e
theorem Canon.small {W x : Nat} (hx : 0 < x) (hW : x < 2 ^ W) : Canon W x [(x : Int)] := by
  refine ⟨fun y hy => ?_, by simp [Mine.val], fun _ => by simp; omega⟩
  rw [List.mem_singleton.mp hy]; have := powNat W; omega
theorem val_take_succ (W : Nat) : ∀ (l : List Int) (i : Nat), val W (l.take (i + 1)) = val W (l.take i) + 2 ^ (W * i) * l.getD i 0
  | [], i => by simp [val]
  | x :: xs, 0 => by simp [val]
  | x :: xs, i + 1 => by
    have ih := val_take_succ W xs i
    simp only [List.take_succ_cons, val, ih, List.getD_cons_succ, Nat.mul_add, Nat.mul_one, Int.pow_add]
    grind
theorem carry_step {P B x v : Int} (h : B * (x / B) + x % B = x) : v + P * (x % B) + P * B * (x / B) = v + P * x := by
  have : P * x = P * (B * (x / B) + x % B) := by rw [h]
  rw [this]; grind
theorem powLe8 {W : Nat} (h : W ≤ 8) : (2 : Int) ^ W ≤ 256 := by
  have h1 : 2 ^ W ≤ 2 ^ 8 := Nat.pow_le_pow_right (by decide) h
  have := powNat W
  omega
theorem Canon.cast {W x y : Nat} {ns : List Int} (h : Canon W x ns) (e : x = y) : Canon W y ns := e ▸ h
end Mine
end

section
open PySem PySem.W PyProof.Rows PySem.Calls
namespace Mine

/-- what a call of one def of the text does, from a heap h: it ends, the heap only grows, Post holds of the answer -/
def Does (w : World) (need : Nat) (f : Addr) (args : List Value) (h : Heap) (Post : Heap → Value → Prop) : Prop :=
  ∀ (mean : ExcName → Option Value) (mg mb : Str → Option Value) (dp un : Nat) (gd : Option (List Code)) (cn : Str) (cs : Scope) (L a : Addr) (ccd : Value) (cl : List (Str × Addr)) (outer : List Env) (A₀ : Around) (base h₀ : Heap) (m : Str → Option Value)
    (gens : Array GenState) (drawn : Drawn) (tk : Nat) (os : OsState) (Q E : Value → Shared → Prop),
    Below A₀ base outer h₀ → Fr h₀ L h m → Frag.In (hd.heap_39 w.params) h₀ → Top VW LW mean mg mb h₀ → cs.kind = .function → dp + need ≤ 900 → un + 10 * need ≤ 9000 →
    (∀ r h' tk', (∀ b o, h.get? b = some o → h'.get? b = some o) → Post h' r → Q r ⟨h', gens, drawn, tk', os⟩) →
    wpAny (model PR w) (ktrTop dp un gd cn cs L a ccd cl outer) (call (.ref f) args) Q E ⟨h, gens, drawn, tk, os⟩

/-- a fresh list of these ints -/
def IsNewInts (h : Heap) (ns : List Int) (h' : Heap) (r : Value) : Prop := ∃ q vs k, r = .ref q ∧ h'.get? q = some (listOf vs.toArray k) ∧ h.get? q = none ∧ IntsAre vs ns

theorem isListOf {h : Heap} {q : Addr} {vs : List Value} {k : Nat} (e : h.get? q = some (listOf vs.toArray k)) : h.IsList q vs.toArray := ⟨_, e, rfl, _, rfl⟩
theorem newsList {h₀ h : Heap} {L q : Addr} {news : List (Addr × Obj)} {vs : List Value} {k : Nat} (N : News h₀ L h news) (e : (q, listOf vs.toArray k) ∈ news) : h.IsList q vs.toArray := isListOf (N _ e).1

section
variable {w : World} {need : Nat} {f : Addr} {args : List Value} {h : Heap}
  {mean : ExcName → Option Value} {mg mb : Str → Option Value} {dp un : Nat} {gd : Option (List Code)} {cn : Str} {cs : Scope} {L a : Addr} {ccd : Value} {cl : List (Str × Addr)} {outer : List Env} {A₀ : Around} {base h₀ : Heap} {m : Str → Option Value}
    {gens : Array GenState} {drawn : Drawn} {tk : Nat} {os : OsState} {Q E : Value → Shared → Prop} {news : List (Addr × Obj)}

theorem Does.list {ns : List Int} (C : Does w need f args h (IsNewInts h ns)) (B : Below A₀ base outer h₀) (F : Fr h₀ L h m) (X : Frag.In (hd.heap_39 w.params) h₀) (N : News h₀ L h news) (T : Top VW LW mean mg mb h₀) (hk : cs.kind = .function) (hd : dp + need ≤ 900) (hu : un + 10 * need ≤ 9000)
    (go : ∀ q vs k h' tk', Fr h₀ L h' m → News h₀ L h' ((q, listOf vs.toArray k) :: news) → (∀ p ∈ news, p.1 ≠ q) → IntsAre vs ns → (∀ b o, h.get? b = some o → h'.get? b = some o) → Q (.ref q) ⟨h', gens, drawn, tk', os⟩) :
    wpAny (model PR w) (ktrTop dp un gd cn cs L a ccd cl outer) (call (.ref f) args) Q E ⟨h, gens, drawn, tk, os⟩ := by
  refine C _ _ _ _ _ _ _ _ _ _ _ _ _ _ _ _ _ _ _ _ _ _ _ B F X T hk hd hu ?_
  rintro r h' tk' e ⟨q, vs, k, rfl, hq, hs, hi⟩
  exact go q vs k h' tk' (F.after e) (newsAdd F N e hq hs) (newsNe N hs) hi e
theorem Does.int {i : Int} (C : Does w need f args h (fun _ r => ∃ t, r = .int i t)) (B : Below A₀ base outer h₀) (F : Fr h₀ L h m) (X : Frag.In (hd.heap_39 w.params) h₀) (N : News h₀ L h news) (T : Top VW LW mean mg mb h₀) (hk : cs.kind = .function) (hd : dp + need ≤ 900) (hu : un + 10 * need ≤ 9000)
    (go : ∀ t h' tk', Fr h₀ L h' m → News h₀ L h' news → (∀ b o, h.get? b = some o → h'.get? b = some o) → Q (.int i t) ⟨h', gens, drawn, tk', os⟩) :
    wpAny (model PR w) (ktrTop dp un gd cn cs L a ccd cl outer) (call (.ref f) args) Q E ⟨h, gens, drawn, tk, os⟩ := by
  refine C _ _ _ _ _ _ _ _ _ _ _ _ _ _ _ _ _ _ _ _ _ _ _ B F X T hk hd hu ?_
  rintro r h' tk' e ⟨t, rfl⟩
  exact go t h' tk' (F.after e) (News.keepsAll N e) e
end
theorem retList {h h' : Heap} {L q : Addr} {news : List (Addr × Obj)} {vs : List Value} {k : Nat} {ns : List Int} (N : News h L h' news) (e : (q, listOf vs.toArray k) ∈ news) (hi : IntsAre vs ns) :
    IsNewInts h ns h' (.ref q) := ⟨q, vs, k, rfl, (N _ e).1, (N _ e).2.2, hi⟩
/-- a fresh list that is the written form of x -/
def IsNewNat (h : Heap) (W x : Nat) (h' : Heap) (r : Value) : Prop := ∃ ns, Canon W x ns ∧ IsNewInts h ns h' r
theorem IsNewNat.mono {h g h' : Heap} {W x : Nat} {r : Value} (c : IsNewNat h W x h' r) (k : ∀ b o, g.get? b = some o → h.get? b = some o) : IsNewNat g W x h' r := by
  obtain ⟨ns, hc, q, vs, n, e, h1, h2, h3⟩ := c
  refine ⟨ns, hc, q, vs, n, e, h1, ?_, h3⟩
  cases hq : g.get? q with
  | none => rfl
  | some o => rw [k _ _ hq] at h2; cases h2
section
variable {w : World} {need : Nat} {f : Addr} {args : List Value} {h : Heap}
  {mean : ExcName → Option Value} {mg mb : Str → Option Value} {dp un : Nat} {gd : Option (List Code)} {cn : Str} {cs : Scope} {L a : Addr} {ccd : Value} {cl : List (Str × Addr)} {outer : List Env} {A₀ : Around} {base h₀ : Heap} {m : Str → Option Value}
    {gens : Array GenState} {drawn : Drawn} {tk : Nat} {os : OsState} {Q E : Value → Shared → Prop} {news : List (Addr × Obj)}
theorem Does.nat {W x : Nat} (C : Does w need f args h (IsNewNat h W x)) (B : Below A₀ base outer h₀) (F : Fr h₀ L h m) (X : Frag.In (hd.heap_39 w.params) h₀) (N : News h₀ L h news) (T : Top VW LW mean mg mb h₀) (hk : cs.kind = .function) (hd : dp + need ≤ 900) (hu : un + 10 * need ≤ 9000)
    (go : ∀ q vs k ns h' tk', Fr h₀ L h' m → News h₀ L h' ((q, listOf vs.toArray k) :: news) → (∀ p ∈ news, p.1 ≠ q) → IntsAre vs ns → Canon W x ns → (∀ b o, h.get? b = some o → h'.get? b = some o) → Q (.ref q) ⟨h', gens, drawn, tk', os⟩) :
    wpAny (model PR w) (ktrTop dp un gd cn cs L a ccd cl outer) (call (.ref f) args) Q E ⟨h, gens, drawn, tk, os⟩ := by
  refine C _ _ _ _ _ _ _ _ _ _ _ _ _ _ _ _ _ _ _ _ _ _ _ B F X T hk hd hu ?_
  rintro r h' tk' e ⟨ns, hc, q, vs, k, rfl, hq, hs, hi⟩
  exact go q vs k ns h' tk' (F.after e) (newsAdd F N e hq hs) (newsNe N hs) hi hc e
end
abbrev tupOf (vs : List Value) : Obj := { cls := .type "tuple", data := .seq vs.toArray }
/-- a fresh tuple of these -/
def IsNewTup (h : Heap) (vs : List Value) (h' : Heap) (r : Value) : Prop := ∃ q, r = .ref q ∧ h'.get? q = some (tupOf vs) ∧ h.get? q = none
/-- a fresh pair of a sign and a fresh list that is the written form of x -/
def IsNewSgn (h : Heap) (W x : Nat) (b : Bool) (h' : Heap) (r : Value) : Prop :=
  ∃ q l vs k ns, r = .ref q ∧ h'.get? q = some (tupOf [.bool b, .ref l]) ∧ h.get? q = none ∧ h'.get? l = some (listOf vs.toArray k) ∧ h.get? l = none ∧ IntsAre vs ns ∧ Canon W x ns
theorem retTup {h h' : Heap} {L q : Addr} {news : List (Addr × Obj)} {vs : List Value} (N : News h L h' news) (e : (q, tupOf vs) ∈ news) : IsNewTup h vs h' (.ref q) := ⟨q, rfl, (N _ e).1, (N _ e).2.2⟩
theorem IsNewTup.mono {h g h' : Heap} {vs : List Value} {r : Value} (c : IsNewTup h vs h' r) (k : ∀ b o, g.get? b = some o → h.get? b = some o) : IsNewTup g vs h' r := by
  obtain ⟨q, e, h1, h2⟩ := c
  refine ⟨q, e, h1, ?_⟩
  cases hq : g.get? q with
  | none => rfl
  | some o => rw [k _ _ hq] at h2; cases h2
theorem IsNewSgn.mono {h g h' : Heap} {W x : Nat} {b : Bool} {r : Value} (c : IsNewSgn h W x b h' r) (k : ∀ b o, g.get? b = some o → h.get? b = some o) : IsNewSgn g W x b h' r := by
  obtain ⟨q, l, vs, n, ns, e, h1, h2, h3, h4, h5, h6⟩ := c
  have off : ∀ a, h.get? a = none → g.get? a = none := fun a ha => by
    cases hq : g.get? a with
    | none => rfl
    | some o => rw [k _ _ hq] at ha; cases ha
  exact ⟨q, l, vs, n, ns, e, h1, off _ h2, h3, off _ h4, h5, h6⟩
theorem tupNews {h₀ h : Heap} {L q : Addr} {news : List (Addr × Obj)} {vs : List Value} (N : News h₀ L h news) (e : (q, tupOf vs) ∈ news) : IsTup h q vs.toArray := ⟨_, (N _ e).1, rfl, _, rfl⟩
theorem mkSgn {g h h' : Heap} {W x : Nat} {b c : Bool} {l : Addr} {vs : List Value} {k : Nat} {ns : List Int} {r : Value} (t : IsNewTup h [.bool c, .ref l] h' r) (eb : c = b) (hl : h.get? l = some (listOf vs.toArray k)) (hf : g.get? l = none)
    (kg : ∀ b o, g.get? b = some o → h.get? b = some o) (kh : ∀ b o, h.get? b = some o → h'.get? b = some o) (hi : IntsAre vs ns) (hc : Canon W x ns) : IsNewSgn g W x b h' r := by
  subst eb
  obtain ⟨q, e, h1, h2⟩ := t.mono kg
  exact ⟨q, l, vs, k, ns, e, h1, h2, kh _ _ hl, hf, hi, hc⟩
section
variable {w : World} {need : Nat} {f : Addr} {args : List Value} {h : Heap}
  {mean : ExcName → Option Value} {mg mb : Str → Option Value} {dp un : Nat} {gd : Option (List Code)} {cn : Str} {cs : Scope} {L a : Addr} {ccd : Value} {cl : List (Str × Addr)} {outer : List Env} {A₀ : Around} {base h₀ : Heap} {m : Str → Option Value}
    {gens : Array GenState} {drawn : Drawn} {tk : Nat} {os : OsState} {Q E : Value → Shared → Prop} {news : List (Addr × Obj)}
theorem Does.tup {vs : List Value} (C : Does w need f args h (IsNewTup h vs)) (B : Below A₀ base outer h₀) (F : Fr h₀ L h m) (X : Frag.In (hd.heap_39 w.params) h₀) (N : News h₀ L h news) (T : Top VW LW mean mg mb h₀) (hk : cs.kind = .function) (hd : dp + need ≤ 900) (hu : un + 10 * need ≤ 9000)
    (go : ∀ q h' tk', Fr h₀ L h' m → News h₀ L h' ((q, tupOf vs) :: news) → (∀ p ∈ news, p.1 ≠ q) → (∀ b o, h.get? b = some o → h'.get? b = some o) → Q (.ref q) ⟨h', gens, drawn, tk', os⟩) :
    wpAny (model PR w) (ktrTop dp un gd cn cs L a ccd cl outer) (call (.ref f) args) Q E ⟨h, gens, drawn, tk, os⟩ := by
  refine C _ _ _ _ _ _ _ _ _ _ _ _ _ _ _ _ _ _ _ _ _ _ _ B F X T hk hd hu ?_
  rintro r h' tk' e ⟨q, rfl, hq, hs⟩
  exact go q h' tk' (F.after e) (newsAdd F N e hq hs) (newsNe N hs) e
theorem Does.sgn {W x : Nat} {b : Bool} (C : Does w need f args h (IsNewSgn h W x b)) (B : Below A₀ base outer h₀) (F : Fr h₀ L h m) (X : Frag.In (hd.heap_39 w.params) h₀) (N : News h₀ L h news) (T : Top VW LW mean mg mb h₀) (hk : cs.kind = .function) (hd : dp + need ≤ 900) (hu : un + 10 * need ≤ 9000)
    (go : ∀ q l vs k ns h' tk', Fr h₀ L h' m → News h₀ L h' ((q, tupOf [.bool b, .ref l]) :: (l, listOf vs.toArray k) :: news) → (∀ p ∈ news, p.1 ≠ q) → (∀ p ∈ news, p.1 ≠ l) → IntsAre vs ns → Canon W x ns → (∀ b o, h.get? b = some o → h'.get? b = some o) → Q (.ref q) ⟨h', gens, drawn, tk', os⟩) :
    wpAny (model PR w) (ktrTop dp un gd cn cs L a ccd cl outer) (call (.ref f) args) Q E ⟨h, gens, drawn, tk, os⟩ := by
  refine C _ _ _ _ _ _ _ _ _ _ _ _ _ _ _ _ _ _ _ _ _ _ _ B F X T hk hd hu ?_
  rintro r h' tk' e ⟨q, l, vs, k, ns, rfl, h1, h2, h3, h4, h5, h6⟩
  have N1 := newsAdd F N e h3 h4
  have N2 := newsAdd F N e h1 h2
  refine go q l vs k ns h' tk' (F.after e) (fun p hp => ?_) (newsNe N h2) (newsNe N h4) h5 h6 e
  rcases List.mem_cons.mp hp with rfl | hp
  · exact N2 _ (List.Mem.head _)
  · exact N1 p hp
end
end Mine
end

section
open PySem PySem.W PyProof.Rows PySem.Calls
namespace Mine

theorem toNat_less {a b : Int} (h : a < b) (h0 : 0 < b) : a.toNat < b.toNat := by omega
theorem mask_eq (x : Int) (W : Nat) : Builtin.bitAnd x (1 * 2 ^ W - 1) = x % 2 ^ W := by rw [Int.one_mul, kbt_mask]
theorem fdiv_eq (x : Int) (W : Nat) : x.fdiv (2 ^ W) = x / 2 ^ W := Int.fdiv_eq_ediv_of_nonneg x (Int.le_of_lt (powPos W))
theorem fmod_eq (x : Int) (W : Nat) : x.fmod (2 ^ W) = x % 2 ^ W := Int.fmod_eq_emod_of_nonneg x (Int.le_of_lt (powPos W))
/-- a frame's names, written out -/
def mapOf : List (Str × Option Value) → Str → Option Value
  | [] => fun _ => none
  | p :: r => fun z => if z = p.1 then p.2 else mapOf r z
def put (x : Str) (v : Option Value) : List (Str × Option Value) → List (Str × Option Value)
  | [] => [(x, v)]
  | p :: r => if x = p.1 then (x, v) :: r else p :: put x v r
theorem mapOf_put (x : Str) (v : Option Value) (l : List (Str × Option Value)) : mapOf (put x v l) = fun z => if z = x then v else mapOf l z := by
  induction l with
  | nil => rfl
  | cons p r ih =>
    funext z
    unfold put
    by_cases h : x = p.1
    · rw [if_pos h]
      show (if z = x then v else mapOf r z) = if z = x then v else (if z = p.1 then p.2 else mapOf r z)
      by_cases hz : z = x
      · rw [if_pos hz, if_pos hz]
      · rw [if_neg hz, if_neg hz, if_neg (by rw [← h]; exact hz)]
    · rw [if_neg h]
      show (if z = p.1 then p.2 else mapOf (put x v r) z) = if z = x then v else (if z = p.1 then p.2 else mapOf r z)
      by_cases hz : z = p.1
      · rw [if_pos hz, if_pos hz, if_neg (fun q => h (q.symm.trans hz))]
      · rw [if_neg hz, if_neg hz, ih]
theorem mapOf_declare (x : Str) (l : List (Str × Option Value)) : mapOf (l ++ [(x, none)]) = mapOf l := by
  induction l with
  | nil => funext z; show (if z = x then none else none) = none; split <;> rfl
  | cons p r ih => funext z; show (if z = p.1 then p.2 else mapOf (r ++ [(x, none)]) z) = if z = p.1 then p.2 else mapOf r z; rw [ih]
theorem mapOf_lookup (l : List (Str × Value)) : (fun y => l.lookup y) = mapOf (l.map fun p => (p.1, some p.2)) := by
  induction l with
  | nil => rfl
  | cons p r ih =>
    funext z
    show List.lookup z (p :: r) = if z = p.1 then some p.2 else mapOf (r.map fun p => (p.1, some p.2)) z
    rw [← ih, List.lookup_cons]
    by_cases h : z = p.1
    · rw [if_pos h, h]; simp
    · rw [if_neg h]
      have : (z == p.1) = false := by simpa using h
      rw [this]
theorem put_nil {x : Str} {v : Option Value} : put x v [] = [(x, v)] := rfl
theorem put_here {x : Str} {v u : Option Value} {r : List (Str × Option Value)} : put x v ((x, u) :: r) = (x, v) :: r := if_pos rfl
theorem put_there {x y : Str} {v u : Option Value} {r r' : List (Str × Option Value)} (h : (x == y) = false) (e : put x v r = r') : put x v ((y, u) :: r) = (y, u) :: r' := by
  have : ¬ x = y := by simpa using h
  show (if x = y then _ else _) = _
  rw [if_neg this, e]
theorem frPut {h₀ h : Heap} {L : Addr} {x : Str} {v : Option Value} {l l' : List (Str × Option Value)} (F : Fr h₀ L h (fun y => if y = x then v else mapOf l y)) (e : put x v l = l') : Fr h₀ L h (mapOf l') := by
  rw [← e, mapOf_put]; exact F

section
variable {M : Model} {A : Around} {E : Value → Shared → Prop} {s : Shared} {name : Str} {scope : Scope} {L a : Addr} {cd : Value} {h₀ : Heap} {news : List (Addr × Obj)}
theorem stM {x : Str} {v : Value} {l l' : List (Str × Option Value)} {Q : Unit → Shared → Prop} (F : Fr h₀ L s.heap (mapOf l)) (N : News h₀ L s.heap news) (e : put x (some v) l = l')
    (h : ∀ h', Fr h₀ L h' (mapOf l') → News h₀ L h' news → Q () { s with heap := h', toks := s.toks + 1 })
    (hk : scope.kind = .function := by rfl) (hl : (envOf name scope L a cd).kindOf x = some .local := by rfl) :
    wpAny M A (storeName (envOf name scope L a cd) x v) Q E s :=
  stN F N (fun h' F' N' => h h' (frPut F' e) N') hk hl
end

theorem enterM {prog : Program} {w : World} {A₀ : Around} {s : Shared} {base h₀ : Heap} {outer : List Env} {L : Addr} {m : Str → Option Value} {K : Frag}
    {dp un : Nat} {gd : Option (List Code)} {cn : Str} {cs : Scope} {a : Addr} {ccd : Value} {cl : List (Str × Addr)}
    {p : Program} {loose : List Str} {mean : ExcName → Option Value} {mg mb : Str → Option Value}
    {Q E : Value → Shared → Prop} {name qual : Str} {params : Arguments} {body : List Stmt} {scope : Scope} {dV kV doc pm cdv ct oc : Value} {an od : Option Addr} {osl : Array (Option Value)} {f : Addr} {args : List Value} (binds : List (Str × Value))
    (B : Below A₀ base outer h₀) (F : Fr h₀ L s.heap m) (X : K.In h₀) (T : Top p loose mean mg mb h₀) (hk : cs.kind = .function)
    (ho : K.lookup f = some ⟨oc, od, .func (fnOf name qual params body scope dV kV doc pm an cdv ct), osl⟩) (hcd : codeIn K cdv qual = true) (hroom : dp < recursionLimit)
    (hbind : BindsTo s (fnOf name qual params body scope dV kV doc pm an cdv ct) ⟨args, []⟩ binds) (hloc : ∀ y ∈ binds, scope.names.lookup y.1 = some .local)
    (hco : scope.isCoroutine = false) (hgen : scope.isGenerator = false) (hkf : scope.kind = .function)
    (hcell : ∀ x ∈ scope.names, x.2 ≠ .cell)
    (h : ∀ g L' h₁ tk', g = s.heap → Fr g L' h₁ (mapOf (binds.reverse.map fun p => (p.1, some p.2))) → News g L' h₁ [] → Below (ktrTop dp un gd cn cs L a ccd cl outer) base (envX cn cs L a ccd cl :: outer) g → K.In g → Top p loose mean mg mb g →
      wpAny (model prog w) (ktrTop (dp + 1) (un + 3) gd qual scope L' f cdv [] (envX cn cs L a ccd cl :: outer)) (execs body (envOf qual scope L' f cdv))
        (fun fl s' => Q (match fl with | .ret v => v | _ => .none) s') (fun _ _ => False)
        { s with heap := h₁, toks := tk' }) :
    wpAny (model prog w) (ktrTop dp un gd cn cs L a ccd cl outer) (call (.ref f) args) Q E s :=
  enter B F X T hk ho hcd hroom hbind hloc hco hgen hkf hcell fun g L' h₁ hg F' N' B' X' T' => h g L' h₁ _ hg (mapOf_lookup _ ▸ F') N' B' X' T'

section
variable {prog : Program} {w : World} {A : Around} {E : Value → Shared → Prop} {Q : Flow → Shared → Prop} {s : Shared} {env : Env} {h₀ : Heap} {L : Addr}

def IfEnd (J : Shared → Prop) (f : Flow) (s : Shared) : Prop := f = .next ∧ J s
theorem if_join {M : Model} {c : Expr} {t e rest : List Stmt} {pos : Pos} (J : Shared → Prop) (h : wpAny M A (exec (.If c t e pos) env) (IfEnd J) E s) (core : ∀ s', J s' → wpAny M A (execs rest env) Q E s') :
    wpAny M A (execs (.If c t e pos :: rest) env) Q E s := by
  refine wpAny_execs_cons (wpAny_mono h (fun f s' q => ?_) fun _ _ x => x)
  obtain ⟨rfl, q⟩ := q
  exact core s' q
def WEnd {σ : Type} (h₀ : Heap) (L : Addr) (s : Shared) (mm : σ → List (Str × Option Value)) (led : σ → List (Addr × Obj)) (P : σ → Prop) (μ : σ → Nat) (n : Nat) (s₂ : Shared) : Prop :=
  ∃ (c : σ) (h' : Heap) (tk : Nat) (news' : List (Addr × Obj)), s₂ = { s with heap := h', toks := tk } ∧ Fr h₀ L h' (mapOf (mm c)) ∧ News h₀ L h' news' ∧ (∀ p ∈ led c, p ∈ news') ∧ P c ∧ μ c < n
def WPost {σ : Type} (h₀ : Heap) (L : Addr) (s : Shared) (mm : σ → List (Str × Option Value)) (led : σ → List (Addr × Obj)) (P : σ → Prop) (μ : σ → Nat) (Q : Flow → Shared → Prop) (n : Nat) (f : Flow) (s₂ : Shared) : Prop :=
  match f with
  | .ret v => Q (.ret v) s₂
  | .brk => Q .next s₂
  | _ => WEnd h₀ L s mm led P μ n s₂

theorem while_m {σ : Type} {test : Expr} {body : List Stmt} {pos : Pos} (mm : σ → List (Str × Option Value)) (led : σ → List (Addr × Obj)) (P : σ → Prop) (μ : σ → Nat) (c₀ : σ)
    (F : Fr h₀ L s.heap (mapOf (mm c₀))) (N : News h₀ L s.heap (led c₀)) (hp : P c₀)
    (turn : ∀ (c : σ) h tk, P c → Fr h₀ L h (mapOf (mm c)) → News h₀ L h (led c) →
      wpAny (model prog w) A (isTrue test env (eval test env)) (fun b s₂ =>
        if b = true then wpAny (model prog w) A (execs body env) (WPost h₀ L s mm led P μ Q (μ c)) E s₂ else Q .next s₂) E { s with heap := h, toks := tk })
    (hE : PassesOwn (model prog w) A env E := by passes_own) :
    wpAny (model prog w) A (exec (.While test body [] pos) env) Q E s := by
  refine While_inv2 (fun n m nx => ∃ c : σ, nx = led c ∧ μ c = n ∧ m = mapOf (mm c) ∧ P c) F N ⟨c₀, rfl, rfl, rfl, hp⟩ ?_ hE
  rintro n m₁ nx h tk F₁ N₁ ⟨c, hnx, hsz, hm, hp'⟩
  rw [hnx] at N₁
  rw [hm] at F₁
  rw [← hsz]
  refine wpAny_mono (turn c h tk hp' F₁ N₁) (fun b s₂ p => ?_) fun _ _ x => x
  cases b with
  | false => simpa using p
  | true =>
    simp only [if_true] at p ⊢
    refine wpAny_mono p (fun f s₃ q => ?_) fun _ _ x => x
    cases f with
    | ret v => exact q
    | brk => exact q
    | next =>
      obtain ⟨c', h', tk', news', rfl, F', N', hn, hp9, hm9⟩ := q
      exact ⟨h', tk', _, led c', μ c', rfl, F', fun p hp => N' p (hn p hp), hm9, c', rfl, rfl, rfl, hp9⟩
    | cont =>
      obtain ⟨c', h', tk', news', rfl, F', N', hn, hp9, hm9⟩ := q
      exact ⟨h', tk', _, led c', μ c', rfl, F', fun p hp => N' p (hn p hp), hm9, c', rfl, rfl, rfl, hp9⟩
end

section
variable {prog : Program} {w : World} {A : Around} {E : Value → Shared → Prop} {s : Shared} {env : Env} {h₀ : Heap} {x : Str} {body : List Stmt} {Q : Flow → Shared → Prop}

def FEnd {σ : Type} (h₀ : Heap) (L : Addr) (s : Shared) (mm : σ → Option Value → List (Str × Option Value)) (led : σ → List (Addr × Obj)) (P : σ → Prop) (own : List (Addr × Obj)) (adr : List Addr) (s₂ : Shared) : Prop :=
  ∃ (c : σ) (u : Option Value) (h' : Heap) (tk : Nat) (news' : List (Addr × Obj)), s₂ = { s with heap := h', toks := tk } ∧ Fr h₀ L h' (mapOf (mm c u)) ∧ News h₀ L h' news' ∧ (∀ p ∈ led c, p ∈ news') ∧ (∀ p ∈ own, p ∈ news') ∧ (led c).map (·.1) = adr ∧ P c
def FPost {σ : Type} (h₀ : Heap) (L : Addr) (s : Shared) (mm : σ → Option Value → List (Str × Option Value)) (led : σ → List (Addr × Obj)) (P : σ → Prop) (own : List (Addr × Obj)) (adr : List Addr) (Q : Flow → Shared → Prop) (f : Flow) (s₂ : Shared) : Prop :=
  match f with
  | .ret v => Q (.ret v) s₂
  | .brk => Q .next s₂
  | _ => FEnd h₀ L s mm led P own adr s₂

theorem fend_inv {σ : Type} {L : Addr} {h : Heap} {tk : Nat} {mm : σ → Option Value → List (Str × Option Value)} {led : σ → List (Addr × Obj)} {P : σ → Prop} {own : List (Addr × Obj)} {adr : List Addr} {s₂ : Shared}
    (q : FEnd h₀ L s mm led P own adr s₂) : InvEndN h₀ L (fun m nx => ∃ c u, nx = led c ∧ m = mapOf (mm c u) ∧ P c) own adr { s with heap := h, toks := tk } s₂ := by
  obtain ⟨c, u, h', tk', news', rfl, F', N', h1, h2, h3, h4⟩ := q
  exact ⟨h', tk', _, news', led c, rfl, F', N', h1, h2, h3, c, u, rfl, rfl, h4⟩

theorem for_range_m {σ : Type} {L : Addr} {r : Addr} {a₀ b₀ : Int} {t₀ u₀ v₀ : Tok} {n : Nat} (mm : σ → Option Value → List (Str × Option Value)) (led : σ → List (Addr × Obj)) (P : Nat → σ → Prop) (c₀ : σ) (w₀ : Option Value)
    (hput : ∀ c u v, put x v (mm c u) = mm c v)
    (hr : IsRange s.heap r a₀ b₀ 1 t₀ u₀ v₀) (hsmall : Builtin.Range.small a₀ b₀ 1 = true) (hn : Builtin.Range.rangeSize a₀ b₀ 1 = (n : Int))
    (F : Fr h₀ L s.heap (mapOf (mm c₀ w₀))) (N : News h₀ L s.heap (led c₀)) (hp : P 0 c₀)
    (turn : ∀ (i : Nat) (c : σ) t h tk own, i < n → OwnOff own ((led c₀).map (·.1)) → P i c →
      Fr h₀ L h (mapOf (mm c (some (.int (a₀ + i) t)))) → News h₀ L h (led c ++ own) →
      wpAny (model prog w) A (execs body env) (FPost h₀ L s mm led (P (i + 1)) own ((led c₀).map (·.1)) Q) E { s with heap := h, toks := tk })
    (done : ∀ (c : σ) u h tk, P n c → Fr h₀ L h (mapOf (mm c u)) → News h₀ L h (led c) → Q .next { s with heap := h, toks := tk })
    (hL : env.locals = L := by rfl) (hh : A.handled = none := by rfl) :
    wpAny (model prog w) A (pyIter (.ref r)) (fun it s₂ => LoopAtV prog w A h₀ env x body Q E it s₂) E s := by
  subst hL
  refine wpAny_pyIter_range hr hsmall ?_
  have W : Walks prog w A s.heap.objs.size [s.heap.objs.size] [s.heap.objs.size] n (fun i v => i < n ∧ ∃ t, v = .int (a₀ + i * 1) t)
      (fun i h => IsRangeIter h s.heap.objs.size (a₀ + (i : Nat) * 1) ((n : Int) - (i : Nat)) 1) := (Walks.range hh _ a₀ 1 n).bound
  refine loop_invN (fun i m nx => ∃ c u, nx = led c ∧ m = mapOf (mm c u) ∧ P i c) W ?_ ?_ ?_ ?_ (by show IsRangeIter _ _ _ _ _; rw [hn]; simpa using Heap.get?_push_size _ rfl) (F.push _) (fun p hp => ⟨Heap.get?_push_of_some _ (N p hp).1, (N p hp).2⟩) ⟨c₀, w₀, rfl, rfl, hp⟩ ?_ ?_
  · intro hm
    exact absurd F.ns.lt ((List.mem_singleton.mp hm) ▸ Nat.lt_irrefl _)
  · intro b hb
    rw [List.mem_singleton.mp hb]
    exact next_is_new F
  · intro p hp hI
    exact absurd (Heap.lt_size (N p hp).1) ((List.mem_singleton.mp hI) ▸ Nat.lt_irrefl _)
  · intro p hp hI
    exact absurd (Heap.lt_size (N p hp).1) ((List.mem_singleton.mp hI) ▸ Nat.lt_irrefl _)
  · rintro i v m₁ nx h tk own hi ⟨_, t, rfl⟩ _ hoff ⟨c, u, rfl, rfl, hp'⟩ F₁ N₁
    have e1 : a₀ + (i : Int) * 1 = a₀ + (i : Int) := by omega
    rw [e1] at F₁
    refine wpAny_mono (turn i c t h tk own hi hoff hp' (frPut F₁ (hput _ _ _)) N₁) (fun f s₂ p => ?_) fun _ _ x => x
    cases f with
    | ret v => exact p
    | brk => exact p
    | next => exact fend_inv p
    | cont => exact fend_inv p
  · rintro m₁ nx h tk ⟨c, u, rfl, rfl, hp'⟩ F₁ N₁
    exact done c u h tk hp' F₁ N₁

theorem for_rangeD_m {σ : Type} {L : Addr} {r : Addr} {a₀ b₀ : Int} {t₀ u₀ v₀ : Tok} {n : Nat} (mm : σ → Option Value → List (Str × Option Value)) (led : σ → List (Addr × Obj)) (P : Nat → σ → Prop) (c₀ : σ) (w₀ : Option Value)
    (hput : ∀ c u v, put x v (mm c u) = mm c v)
    (hr : IsRange s.heap r a₀ b₀ (-1) t₀ u₀ v₀) (hsmall : Builtin.Range.small a₀ b₀ (-1) = true) (hn : Builtin.Range.rangeSize a₀ b₀ (-1) = (n : Int))
    (F : Fr h₀ L s.heap (mapOf (mm c₀ w₀))) (N : News h₀ L s.heap (led c₀)) (hp : P 0 c₀)
    (turn : ∀ (i : Nat) (c : σ) t h tk own, i < n → OwnOff own ((led c₀).map (·.1)) → P i c →
      Fr h₀ L h (mapOf (mm c (some (.int (a₀ - i) t)))) → News h₀ L h (led c ++ own) →
      wpAny (model prog w) A (execs body env) (FPost h₀ L s mm led (P (i + 1)) own ((led c₀).map (·.1)) Q) E { s with heap := h, toks := tk })
    (done : ∀ (c : σ) u h tk, P n c → Fr h₀ L h (mapOf (mm c u)) → News h₀ L h (led c) → Q .next { s with heap := h, toks := tk })
    (hL : env.locals = L := by rfl) (hh : A.handled = none := by rfl) :
    wpAny (model prog w) A (pyIter (.ref r)) (fun it s₂ => LoopAtV prog w A h₀ env x body Q E it s₂) E s := by
  subst hL
  refine wpAny_pyIter_range hr hsmall ?_
  have W : Walks prog w A s.heap.objs.size [s.heap.objs.size] [s.heap.objs.size] n (fun i v => i < n ∧ ∃ t, v = .int (a₀ + i * (-1)) t)
      (fun i h => IsRangeIter h s.heap.objs.size (a₀ + (i : Nat) * (-1)) ((n : Int) - (i : Nat)) (-1)) := (Walks.range hh _ a₀ (-1) n).bound
  refine loop_invN (fun i m nx => ∃ c u, nx = led c ∧ m = mapOf (mm c u) ∧ P i c) W ?_ ?_ ?_ ?_ (by show IsRangeIter _ _ _ _ _; rw [hn]; simpa using Heap.get?_push_size _ rfl) (F.push _) (fun p hp => ⟨Heap.get?_push_of_some _ (N p hp).1, (N p hp).2⟩) ⟨c₀, w₀, rfl, rfl, hp⟩ ?_ ?_
  · intro hm
    exact absurd F.ns.lt ((List.mem_singleton.mp hm) ▸ Nat.lt_irrefl _)
  · intro b hb
    rw [List.mem_singleton.mp hb]
    exact next_is_new F
  · intro p hp hI
    exact absurd (Heap.lt_size (N p hp).1) ((List.mem_singleton.mp hI) ▸ Nat.lt_irrefl _)
  · intro p hp hI
    exact absurd (Heap.lt_size (N p hp).1) ((List.mem_singleton.mp hI) ▸ Nat.lt_irrefl _)
  · rintro i v m₁ nx h tk own hi ⟨_, t, rfl⟩ _ hoff ⟨c, u, rfl, rfl, hp'⟩ F₁ N₁
    have e1 : a₀ + (i : Int) * (-1) = a₀ - (i : Int) := by omega
    rw [e1] at F₁
    refine wpAny_mono (turn i c t h tk own hi hoff hp' (frPut F₁ (hput _ _ _)) N₁) (fun f s₂ p => ?_) fun _ _ x => x
    cases f with
    | ret v => exact p
    | brk => exact p
    | next => exact fend_inv p
    | cont => exact fend_inv p
  · rintro m₁ nx h tk ⟨c, u, rfl, rfl, hp'⟩ F₁ N₁
    exact done c u h tk hp' F₁ N₁

theorem for_list_m {σ : Type} {L : Addr} {l : Addr} {vs : List Value} {ns : List Int} (mm : σ → Option Value → List (Str × Option Value)) (led : σ → List (Addr × Obj)) (P : Nat → σ → Prop) (c₀ : σ) (w₀ : Option Value)
    (hput : ∀ c u v, put x v (mm c u) = mm c v)
    (hl : h₀.IsList l vs.toArray) (hi : IntsAre vs ns)
    (F : Fr h₀ L s.heap (mapOf (mm c₀ w₀))) (N : News h₀ L s.heap (led c₀)) (hp : P 0 c₀)
    (turn : ∀ (i : Nat) (c : σ) k t h tk own, ns[i]? = some k → i < ns.length → OwnOff own ((led c₀).map (·.1)) → P i c →
      Fr h₀ L h (mapOf (mm c (some (.int k t)))) → News h₀ L h (led c ++ own) →
      wpAny (model prog w) A (execs body env) (FPost h₀ L s mm led (P (i + 1)) own ((led c₀).map (·.1)) Q) E { s with heap := h, toks := tk })
    (done : ∀ (c : σ) u h tk, P ns.length c → Fr h₀ L h (mapOf (mm c u)) → News h₀ L h (led c) → Q .next { s with heap := h, toks := tk })
    (hL : env.locals = L := by rfl) (hh : A.handled = none := by rfl) :
    wpAny (model prog w) A (pyIter (.ref l)) (fun it s₂ => LoopAtV prog w A h₀ env x body Q E it s₂) E s := by
  subst hL
  refine iter_invN (fun i m nx => ∃ c u, nx = led c ∧ m = mapOf (mm c u) ∧ P i c) hh hl hi F N ⟨c₀, w₀, rfl, rfl, hp⟩ ?_ ?_
  · rintro i k t m₁ nx h tk own hn _ hoff ⟨c, u, rfl, rfl, hp'⟩ F₁ N₁
    refine wpAny_mono (turn i c k t h tk own hn (List.getElem?_eq_some_iff.mp hn).1 hoff hp' (frPut F₁ (hput _ _ _)) N₁) (fun f s₂ p => ?_) fun _ _ x => x
    cases f with
    | ret v => exact p
    | brk => exact p
    | next => exact fend_inv p
    | cont => exact fend_inv p
  · rintro m₁ nx h tk ⟨c, u, rfl, rfl, hp'⟩ F₁ N₁
    exact done c u h tk hp' F₁ N₁

theorem for_enum_m {σ : Type} {L : Addr} {xi xc : Str} {ns : List Int} {e : Addr} (mm : σ → Option Value → Option Value → List (Str × Option Value)) (led : σ → List (Addr × Obj)) (P : Nat → σ → Prop) (c₀ : σ) (w₀ w₁ : Option Value)
    (hput : ∀ c u v u' v', put xc v' (put xi v (mm c u u')) = mm c v v')
    (S : PairSrcL prog w A E h₀ L ItemKind.int ns (.ref e) s (mapOf (mm c₀ w₀ w₁)) (led c₀)) (hp : P 0 c₀)
    (turn : ∀ (i : Nat) (c : σ) k t t' h tk own, ns[i]? = some k → i < ns.length → OwnOff own ((led c₀).map (·.1)) → P i c →
      Fr h₀ L h (mapOf (mm c (some (.int i t)) (some (.int k t')))) → News h₀ L h (led c ++ own) →
      wpAny (model prog w) A (execs body env) (FPost (σ := σ × Option Value) h₀ L s (fun c u => mm c.1 c.2 u) (fun c => led c.1) (fun c => P (i + 1) c.1) own ((led c₀).map (·.1)) Q) E { s with heap := h, toks := tk })
    (done : ∀ (c : σ) u u' h tk, P ns.length c → Fr h₀ L h (mapOf (mm c u u')) → News h₀ L h (led c) → Q .next { s with heap := h, toks := tk })
    (hL : env.locals = L := by rfl) :
    wpAny (model prog w) A (pyIter (.ref e)) (fun it s₂ => PairAt3 prog w A h₀ env xi xc body Q E it s₂) E s := by
  subst hL
  refine PairSrcL.at S env rfl xi xc body Q (fun i m nx => ∃ c u u', nx = led c ∧ m = mapOf (mm c u u') ∧ P i c) ⟨c₀, w₀, w₁, rfl, rfl, hp⟩ ?_ ?_
  · rintro i k t v m₁ nx s₁ own ⟨h, tk, rfl⟩ hn hk ⟨c, u, u', rfl, rfl, hp'⟩ hadr hoff F₁ N₁
    obtain ⟨t', rfl⟩ := hk
    have hoff' : OwnOff own ((led c₀).map (·.1)) := by
      intro p hp b hb
      obtain ⟨q, hq, rfl⟩ := List.mem_map.mp hb
      exact hoff p hp q hq
    have F₂ : Fr h₀ env.locals h (mapOf (put xc (some (.int k t')) (put xi (some (.int i t)) (mm c u u')))) := by
      rw [mapOf_put, mapOf_put]; exact F₁
    rw [hput] at F₂
    have N₂ : News h₀ env.locals h (led c ++ own) := fun p hp => N₁ p ((List.mem_append.mp hp).elim (fun h => List.mem_append.mpr (.inr h)) fun h => List.mem_append.mpr (.inl h))
    refine wpAny_mono (turn i c k t t' h tk own hn (List.getElem?_eq_some_iff.mp hn).1 hoff' hp' F₂ N₂) (fun f s₂ p => ?_) fun _ _ x => x
    have fin : FEnd (σ := σ × Option Value) h₀ env.locals s (fun c u => mm c.1 c.2 u) (fun c => led c.1) (fun c => P (i + 1) c.1) own ((led c₀).map (·.1)) s₂ → LoopStep2 h₀ env.locals own (led c) (fun m nx => ∃ c u u', nx = led c ∧ m = mapOf (mm c u u') ∧ P (i + 1) c) { s with heap := h, toks := tk } .next s₂ := by
      rintro ⟨⟨c', v'⟩, u', h', tk', news', rfl, F', N', h1, h2, h3, h4⟩
      refine ⟨rfl, h', tk', _, led c', rfl, F', fun p hp => N' p ((List.mem_append.mp hp).elim (h2 p) (h1 p)), h3.trans hadr.symm, c', v', u', rfl, rfl, h4⟩
    cases f with
    | ret v => exact p
    | brk => exact p
    | next => exact fin p
    | cont => exact fin p
  · rintro h tk m' nx F₁ N₁ _ ⟨c, u, u', rfl, rfl, hp'⟩
    exact done c u u' h tk hp' F₁ N₁
end
end Mine
end

namespace Mine
theorem fill_all : (hd.heap_39 = hd.heap_39 ∧ PySem.Challenge.rw_xm0423_01 = PySem.Challenge.rw_xm0423_01) := by k_fill; exact ⟨rfl, rfl⟩
local macro_rules | `(tactic| walk_at "mine put") => `(tactic| first | exact put_nil | (with_reducible exact put_here) | (refine' put_there ?hp ?hq; (case hp => decide); (case hq => walk_at "mine put")))
local macro_rules | `(tactic| walk_at "mine cases") => `(tactic| (
  k_dflt ((case kB => k_asm); (case kF => k_asm); (case kX => k_asm); (case kT => k_asm); (case kk => k_asm); (case ho => k_is); (case hcd => k_is); (case hroom => (simp only [recursionLimit]; omega)); (case hbind => exact BindsTo.of_eq rfl); (case hloc => exact locs rfl); (case hco => exact rfl); (case hgen => exact rfl); (case hkf => exact rfl); (case hcell => decide))))
local macro_rules | `(tactic| walk_at "storeName") => `(tactic| (k_here; k_dflt (refine' stM ?k1 ?k2 ?k3 ?_; (case k1 => k_asm); (case k2 => k_asm); (case k3 => walk_at "mine put"); k_whole); intro h' F' N'; (try k_sweep)))
local macro_rules | `(tactic| walk_at "eval Name") => `(tactic| (k_here; k_dflt (refine' ld ?k1 ?k2 ?_; (case k1 => k_asm); (case k2 => exact rfl); k_whole)))
local macro_rules | `(tactic| walk_at "execs cons Assign cons") => `(tactic| refine wpAny_execs_cons ?_)
local macro_rules | `(tactic| walk_at "exec For Name Call cons nil") => `(tactic| (k_here; (rename Fr _ _ _ _ => lF'); (with_unfolding_all refine' For_invVF lF' ?k1 ?k2 ?_; (case k1 => exact rfl); (case k2 => exact rfl); k_whole)))
local macro_rules | `(tactic| k_ne) => `(tactic| (refine neN ?_; (try dsimp only); intro hq; (repeat (with_reducible rename _ ∧ _ => hc; obtain ⟨_, _⟩ := hc)); first | exact absurd hq (by assumption) | exact absurd hq.symm (by assumption) | exact absurd hq (Nat.ne_of_lt (by assumption)) | exact absurd hq (Nat.ne_of_gt (by assumption))))
local macro_rules | `(tactic| walk_at "SeqLeaf") => `(tactic| k_extra "own SeqLeaf")
local macro_rules | `(tactic| walk_at "call ref") => `(tactic| k_extra "own call ref")
local macro_rules | `(tactic| walk_at "call type:range") => `(tactic| k_extra "own call type:range")
local macro_rules | `(tactic| walk_at "compareOp Eq int int") => `(tactic| k_extra "own compareOp Eq int int")
local macro_rules | `(tactic| walk_at "eval ListComp") => `(tactic| k_extra "own eval ListComp")
local macro_rules | `(tactic| walk_at "eval Name") => `(tactic| k_extra "own eval Name")
local macro_rules | `(tactic| walk_at "exec Assign cons ListComp") => `(tactic| k_extra "own exec Assign cons ListComp")
local macro_rules | `(tactic| walk_at "exec For Name Call cons nil") => `(tactic| k_extra "own exec For Name Call cons nil")
local macro_rules | `(tactic| walk_at "pyIter ref") => `(tactic| k_extra "own pyIter ref")
local macro_rules | `(tactic| walk_at "setItem ref int bool") => `(tactic| k_extra "own setItem ref int bool")
local macro_rules | `(tactic| walk_at "subscriptTail Name Name ref int") => `(tactic| k_extra "own subscriptTail Name Name ref int")

theorem words_limb_ones : True := by w_top off; k_with_none; trivial
def popn (n : Nat) : Nat := if n = 0 then 0 else n % 2 + popn (n / 2)
def popc (n : Int) : Int := popn n.toNat
theorem popc_step : ∀ n : Int, 0 < n → n < 256 → popc n = popc (Builtin.bitAnd n (n - 1)) + 1 ∧ 0 ≤ Builtin.bitAnd n (n - 1) ∧ Builtin.bitAnd n (n - 1) < n := by
  have h : ∀ k : Fin 256, 0 < (k.val : Int) → popc k.val = popc (Builtin.bitAnd k.val (k.val - 1)) + 1 ∧ 0 ≤ Builtin.bitAnd (k.val : Int) (k.val - 1) ∧ Builtin.bitAnd (k.val : Int) (k.val - 1) < k.val := by decide +kernel
  intro n h0 h1
  obtain ⟨k, hk⟩ : ∃ k : Fin 256, (k.val : Int) = n := ⟨⟨n.toNat, by omega⟩, by simp; omega⟩
  subst hk
  exact h k h0
theorem limb_ones_turn {n x f : Int} (h : 0 ≤ x ∧ x < 256 ∧ f + popc x = popc n) (h0 : 0 < x) : 0 ≤ Builtin.bitAnd x (x - 1) ∧ Builtin.bitAnd x (x - 1) < 256 ∧ f + 1 + popc (Builtin.bitAnd x (x - 1)) = popc n := by
  have := popc_step x h0 h.2.1
  omega
theorem limb_ones_done {n x f : Int} (h : 0 ≤ x) (h0 : ¬ 0 < x) (h1 : f + popc x = popc n) : f = popc n := by
  have : x = 0 := by omega
  subst this
  have : popc 0 = 0 := by decide +kernel
  omega
set_option maxRecDepth 100000 in
set_option maxHeartbeats 2000000 in
theorem limb_ones_spec {w : World} {h : Heap} {n : Int} {t : Tok} (h0 : 0 ≤ n) (h1 : n < 256) : Does w 1 21 [.int n t] h (fun _ r => ∃ t, r = .int (popc n) t) := by
  intro mean mg mb dp un gd cn cs L a ccd cl outer A₀ base h₀ m gens drawn tk os Q E B F X T hk hd hu hret
  refine' enterM [(Str.ofString "limb", .int n t)] ?kB ?kF ?kX ?kT ?kk ?ho ?hcd ?hroom ?hbind ?hloc ?hco ?hgen ?hkf ?hcell ?_
  walk_at "mine cases"
  clear B F X T hk
  intro g L' h' tk' hg' F' N' B' X' T'
  dsimp only at hg'; subst hg'
  simp only [List.reverse_cons, List.reverse_nil, List.nil_append, List.cons_append, List.map_cons, List.map_nil] at F'
  k_with "exec While Compare cons nil" => refine Stop.out ?_
  k_steps
  unfold Stop
  rename_i F N
  refine while_m (σ := Int × Tok × Int × Tok) (fun c => [(Str.ofString "limb", some (.int c.1 c.2.1)), (Str.ofString "found", some (.int c.2.2.1 c.2.2.2))])
    (fun c => []) (fun c => 0 ≤ c.1 ∧ c.1 < 256 ∧ c.2.2.1 + popc c.1 = popc n) (fun c => c.1.toNat) (n, t, 0, _) F N ⟨h0, h1, by simp⟩ ?_
  clear F N
  rintro ⟨x, tx, f, tf⟩ hh tt ⟨i0, i1, i2⟩ F N
  dsimp only at i0 i1 i2 F N ⊢
  k_steps
  · rename_i F N
    have e := limb_ones_turn ⟨i0, i1, i2⟩ (by assumption)
    have e2 := (popc_step x (by assumption) i1).2.2
    exact ⟨(_, _, _, _), _, _, _, rfl, F, N, (fun _ hp => nomatch hp), e, toNat_less e2 (by assumption)⟩
  · have e := limb_ones_done i0 (by assumption) i2
    refine hret _ _ _ F.keep ?_
    rw [e]; exact ⟨_, rfl⟩

theorem words_normal : True := by w_top off; k_with_none; trivial
theorem normal_turn {W : Nat} {na : List Int} {e : Int} (h0 : 0 < e) (h1 : e ≤ na.length) (hv : val W (na.take e.toNat) = val W na) (hz : na.getD (e - 1).toNat 0 = 0) :
    0 ≤ e - 1 ∧ e - 1 ≤ na.length ∧ val W (na.take (e - 1).toNat) = val W na := by
  refine ⟨by omega, by omega, ?_⟩
  rw [← hv, show e.toNat = (e - 1).toNat + 1 by omega, List.take_add_one]
  have : (e - 1).toNat < na.length := by omega
  rw [List.getD_eq_getElem?_getD] at hz
  rw [List.getElem?_eq_getElem this] at hz ⊢
  simp only [Option.getD_some] at hz
  rw [hz]
  simp [val_snoc]
theorem normal_done {W : Nat} {na : List Int} {e : Int} (hd : Dig W na) (h0 : 0 ≤ e) (h1 : e ≤ na.length) (hv : val W (na.take e.toNat) = val W na) (hz : 0 < e → na.getD (e - 1).toNat 0 ≠ 0) :
    Canon W (val W na).toNat (na.take e.toNat) := by
  have hn := hd.val_nonneg
  refine ⟨hd.take _, by omega, fun hne => ?_⟩
  have hp : 0 < e := by
    rcases Int.lt_or_eq_of_le h0 with q | q
    · exact q
    · subst q; simp at hne
  have hl : (na.take e.toNat).length = e.toNat := by rw [List.length_take]; omega
  rw [hl, show ((val W na).toNat : Int) = val W na by omega, ← hv]
  have hlt : (e - 1).toNat < na.length := by omega
  have ht : na.take e.toNat = na.take (e - 1).toNat ++ [na.getD (e - 1).toNat 0] := by
    rw [show e.toNat = (e - 1).toNat + 1 by omega, List.take_add_one, List.getD_eq_getElem?_getD, List.getElem?_eq_getElem hlt]; rfl
  rw [ht, val_snoc, List.length_take, show e.toNat - 1 = (e - 1).toNat by omega, Nat.min_eq_left (by omega)]
  have h2 := (hd.take (e - 1).toNat).val_nonneg
  have h3 := (hd.getD (e - 1).toNat).1
  have h4 := hz hp
  have h5 : (2 : Int) ^ (W * (e - 1).toNat) * 1 ≤ 2 ^ (W * (e - 1).toNat) * na.getD (e - 1).toNat 0 := Int.mul_le_mul_of_nonneg_left (by omega) (Int.le_of_lt (powPos _))
  omega
set_option maxRecDepth 100000 in
set_option maxHeartbeats 2000000 in
theorem normal_spec {w : World} {h : Heap} {W : Nat} {la : Addr} {va : List Value} {na : List Int} (hA : h.IsList la va.toArray) (hAi : IntsAre va na) (hl : na.length < 1000) (hdig : Dig W na) :
    Does w 1 58 [.ref la] h (IsNewNat h W (val W na).toNat) := by
  intro mean mg mb dp un gd cn cs L a ccd cl outer A₀ base h₀ m gens drawn tk os Q E B F X T hk hd hu hret
  refine' enterM [(Str.ofString "a", .ref la)] ?kB ?kF ?kX ?kT ?kk ?ho ?hcd ?hroom ?hbind ?hloc ?hco ?hgen ?hkf ?hcell ?_
  walk_at "mine cases"
  clear B F X T hk
  intro g L' h' tk' hg' F' N' B' X' T'
  dsimp only at hg'; subst hg'
  simp only [List.reverse_cons, List.reverse_nil, List.nil_append, List.cons_append, List.map_cons, List.map_nil] at F'
  k_with "exec While BoolOp cons nil" => refine Stop.out ?_
  k_steps
  unfold Stop
  rename_i F N
  refine while_m (σ := Int × Tok) (fun c => [(Str.ofString "a", some (.ref la)), (Str.ofString "end", some (.int c.1 c.2))])
    (fun c => []) (fun c => 0 ≤ c.1 ∧ c.1 ≤ na.length ∧ val W (na.take c.1.toNat) = val W na) (fun c => c.1.toNat) (na.length, _) F N ⟨by simp, by simp, by simp⟩ ?_
  clear F N
  rintro ⟨e, te⟩ hh tt ⟨i0, i1, i2⟩ F N
  dsimp only at i0 i1 i2 F N ⊢
  k_steps
  · rename_i F N
    exact ⟨(_, _), _, _, _, rfl, F, N, (fun _ hp => nomatch hp), normal_turn (by assumption) i1 i2 (by assumption), toNat_less (by omega) (by assumption)⟩
  · rename_i F N hi _ _ _
    have e := normal_done (W := W) hdig i0 i1 i2 (fun _ => by assumption)
    exact hret _ _ _ F.keep ⟨_, e, retList N (List.Mem.head _) hi⟩
  · rename_i F N hi _ _ _
    have e := normal_done (W := W) hdig i0 i1 i2 (fun _ => by omega)
    exact hret _ _ _ F.keep ⟨_, e, retList N (List.Mem.head _) hi⟩

theorem words_compare : True := by w_top off; k_with_none; trivial
theorem canon_lt_of_len {W x y : Nat} {na nb : List Int} (hx : Canon W x na) (hy : Canon W y nb) (h : na.length < nb.length) : x < y := by
  have h1 := hx.dig.val_lt
  rw [hx.val] at h1
  have h2 := hy.top (by rintro rfl; simp at h)
  have h3 : (2 : Nat) ^ (W * na.length) ≤ 2 ^ (W * (nb.length - 1)) := Nat.pow_le_pow_right (by decide) (Nat.mul_le_mul_left W (by omega))
  have h4 := powNat (W * na.length)
  have h5 := powNat (W * (nb.length - 1))
  omega
theorem val_split (W : Nat) (l : List Int) (i : Nat) (h : i < l.length) : val W l = val W (l.take i) + 2 ^ (W * i) * (l.getD i 0 + 2 ^ W * val W (l.drop (i + 1))) := by
  have e : l = l.take i ++ (l.getD i 0 :: l.drop (i + 1)) := by
    rw [List.getD_eq_getElem?_getD, List.getElem?_eq_getElem h, Option.getD_some, List.getElem_cons_drop, List.take_append_drop]
  have q : val W (l.take i ++ (l.getD i 0 :: l.drop (i + 1))) = val W (l.take i) + 2 ^ (W * i) * (l.getD i 0 + 2 ^ W * val W (l.drop (i + 1))) := by
    rw [val_append, val, List.length_take, Nat.min_eq_left (by omega)]
  rw [← q, ← e]
theorem canon_lt_of_digit {W x y i : Nat} {na nb : List Int} (hx : Canon W x na) (hy : Canon W y nb) (hl : na.length = nb.length) (hi : i < na.length) (hd : na.drop (i + 1) = nb.drop (i + 1)) (h : na.getD i 0 < nb.getD i 0) : x < y := by
  have e1 := val_split W na i hi
  have e2 := val_split W nb i (by omega)
  rw [hx.val] at e1
  rw [hy.val, ← hd] at e2
  have b1 := (hx.dig.take i).val_lt
  rw [List.length_take, Nat.min_eq_left (by omega)] at b1
  have b2 := (hy.dig.take i).val_nonneg
  obtain ⟨Z, hZ⟩ : ∃ Z, Z = 2 ^ W * val W (na.drop (i + 1)) := ⟨_, rfl⟩
  rw [← hZ] at e1 e2
  have h3 : (2 : Int) ^ (W * i) * (na.getD i 0 + Z + 1) ≤ 2 ^ (W * i) * (nb.getD i 0 + Z) := Int.mul_le_mul_of_nonneg_left (by omega) (Int.le_of_lt (powPos _))
  rw [Int.mul_add, Int.mul_one] at h3
  omega
theorem canon_drop {na nb : List Int} {i : Nat} (hi : i < na.length) (hl : na.length = nb.length) (hd : na.drop (na.length - i) = nb.drop (na.length - i)) (h : na.getD (na.length - 1 - i) 0 = nb.getD (na.length - 1 - i) 0) :
    na.drop (na.length - (i + 1)) = nb.drop (na.length - (i + 1)) := by
  have e : na.length - i = na.length - 1 - i + 1 := by omega
  have e2 : na.length - (i + 1) = na.length - 1 - i := by omega
  rw [e] at hd
  rw [e2]
  have l1 : na.length - 1 - i < na.length := by omega
  have l2 : na.length - 1 - i < nb.length := by omega
  rw [List.getD_eq_getElem?_getD, List.getD_eq_getElem?_getD, List.getElem?_eq_getElem l1, List.getElem?_eq_getElem l2, Option.getD_some, Option.getD_some] at h
  rw [← List.getElem_cons_drop l1, ← List.getElem_cons_drop l2, h, hd]
theorem canon_eq_of {W x y : Nat} {ns : List Int} (hx : Canon W x ns) (hy : Canon W y ns) : x = y := by
  have := hx.val; have := hy.val; omega
set_option maxRecDepth 100000 in
set_option maxHeartbeats 1000000 in
theorem compare_spec {w : World} {h : Heap} {x y W : Nat} {la lb : Addr} {va vb : List Value} {na nb : List Int} (hW3 : 3 ≤ W) (hA : h.IsList la va.toArray) (hAi : IntsAre va na) (hAc : Canon W x na) (hB : h.IsList lb vb.toArray) (hBi : IntsAre vb nb) (hBc : Canon W y nb)
    (hx : x < 1073741824) (hy : y < 1073741824) :
    Does w 1 72 [.ref la, .ref lb] h (fun _ r => ∃ c t, r = .int c t ∧ (c < 0 ↔ x < y)) := by
  intro mean mg mb dp un gd cn cs L a ccd cl outer A₀ base h₀ m gens drawn tk os Q E B F X T hk hd hu hret
  refine' enterM [(Str.ofString "a", .ref la), (Str.ofString "b", .ref lb)] ?kB ?kF ?kX ?kT ?kk ?ho ?hcd ?hroom ?hbind ?hloc ?hco ?hgen ?hkf ?hcell ?_
  walk_at "mine cases"
  clear B F X T hk
  intro g L' h' tk' hg' F' N' B' X' T'
  dsimp only at hg'; subst hg'
  simp only [List.reverse_cons, List.reverse_nil, List.nil_append, List.cons_append, List.map_cons, List.map_nil] at F'
  have hAl := hAc.len30 hW3 hx
  have hBl := hBc.len30 hW3 hy
  k_with "pyIter ref" => refine Stop.out ?_
  k_steps
  · exact hret _ _ _ F'.keep ⟨_, _, rfl, by have := canon_lt_of_len hAc hBc (by omega); omega⟩
  · refine hret _ _ _ F'.keep ⟨_, _, rfl, ?_⟩
    have := canon_lt_of_len hBc hAc (by omega); omega
  unfold Stop
  rename_i el _ tk3 t1 u1 v1 R F N Ek
  have hl : na.length = nb.length := by omega
  rw [← mapOf_declare (Str.ofString "at")] at F
  refine for_rangeD_m (n := na.length) (σ := Unit) (fun c u => [(Str.ofString "b", some (.ref lb)), (Str.ofString "a", some (.ref la)), (Str.ofString "at", u)])
    (fun c => []) (fun i c => na.drop (na.length - i) = nb.drop (na.length - i)) () none (fun _ _ _ => by with_unfolding_all rfl) R
    (small_down (by omega) (by omega) (by omega) (by omega)) (by rw [rangeSize_downNat]; omega) F N (by simp [hl]) ?_ ?_
  · clear F N R Ek
    rintro i ⟨⟩ t hh tt own hi hoff ip F N
    dsimp only at ip F N ⊢
    k_steps
    all_goals rw [show ((na.length : Int) - 1 - (i : Int)).toNat = na.length - 1 - i by omega] at *
    · refine hret _ _ _ F.keep ⟨_, _, rfl, ?_⟩
      have := canon_lt_of_digit (i := na.length - 1 - i) hAc hBc hl (by omega) (by rw [show na.length - 1 - i + 1 = na.length - i by omega]; exact ip) (by assumption)
      omega
    · refine hret _ _ _ F.keep ⟨_, _, rfl, ?_⟩
      have := canon_lt_of_digit (i := na.length - 1 - i) hBc hAc hl.symm (by omega) (by rw [show na.length - 1 - i + 1 = na.length - i by omega]; exact ip.symm) (by omega)
      omega
    · exact ⟨(), _, _, _, _, rfl, F, N, (fun _ hp => nomatch hp), (fun p hp => hp), rfl, canon_drop (by omega) hl ip (by omega)⟩
  · clear F N R Ek
    rintro ⟨⟩ u hh tt ip F N
    k_steps
    rw [Nat.sub_self, List.drop_zero, List.drop_zero] at ip
    subst ip
    have := canon_eq_of hAc hBc
    exact hret _ _ _ F.keep ⟨_, _, rfl, by omega⟩

theorem words_law_limbs : True := by w_top off; k_with_none; trivial
def LL (W n : Nat) (x : Int) (f : List Int) : Prop := Dig W f ∧ val W f + 2 ^ (W * f.length) * x = n ∧ (f ≠ [] → (2 : Int) ^ (W * (f.length - 1)) ≤ n)
theorem LL.start {W n : Nat} : LL W n n [] := ⟨Dig.nil _, by simp [val], fun h => absurd rfl h⟩
theorem LL.turn {W n : Nat} {x : Int} {f : List Int} (hW : 3 ≤ W) (hn : n < 1073741824) (hx : 0 < x) (h : LL W n x f) :
    0 ≤ x.fdiv (2 ^ W) ∧ x.fdiv (2 ^ W) < x ∧ (f ++ [x.fmod (2 ^ W)]).length ≤ 20 ∧ LL W n (x.fdiv (2 ^ W)) (f ++ [x.fmod (2 ^ W)]) := by
  obtain ⟨hd, hv, ht⟩ := h
  have hp := powGt W (by omega)
  have e1 := Int.fdiv_eq_ediv_of_nonneg x (by omega : (0 : Int) ≤ 2 ^ W)
  have e2 := Int.fmod_eq_emod_of_nonneg x (by omega : (0 : Int) ≤ 2 ^ W)
  rw [e1, e2]
  have h1 := Int.emod_nonneg x (by omega : (2 : Int) ^ W ≠ 0)
  have h2 := Int.emod_lt_of_pos x (by omega : (0 : Int) < 2 ^ W)
  have h3 := Int.mul_ediv_add_emod x (2 ^ W)
  have hvn := hd.val_nonneg
  have h4 : (2 : Int) ^ (W * f.length) * 1 ≤ 2 ^ (W * f.length) * x := Int.mul_le_mul_of_nonneg_left (by omega) (Int.le_of_lt (powPos _))
  have hlen : f.length < 10 := by
    rcases Nat.lt_or_ge f.length 10 with q | q
    · exact q
    · exfalso
      have h5 : (2 : Nat) ^ 30 ≤ 2 ^ (W * f.length) := Nat.pow_le_pow_right (by decide) (by
        have := Nat.mul_le_mul hW q; omega)
      have h6 := powNat (W * f.length)
      omega
  refine ⟨Int.ediv_nonneg (by omega) (by omega), Int.ediv_lt_of_lt_mul (by omega) (by
      have : x * 1 < x * 2 ^ W := Int.mul_lt_mul_of_pos_left hp hx
      omega), by rw [List.length_append]; simp; omega, hd.snoc h1 h2, ?_, fun _ => ?_⟩
  · rw [val_snoc, ← hv, List.length_append, List.length_singleton, Nat.mul_add, Nat.mul_one, Int.pow_add]
    generalize (2 : Int) ^ (W * f.length) = P at *
    generalize (2 : Int) ^ W = B at *
    have : P * x = P * (B * (x / B) + x % B) := by rw [h3]
    rw [this]; grind
  · rw [List.length_append, List.length_singleton, Nat.add_sub_cancel]
    omega
theorem LL.done {W n : Nat} {x : Int} {f : List Int} (h0 : 0 ≤ x) (h1 : ¬ 0 < x) (h : LL W n x f) : Canon W n f := by
  obtain ⟨hd, hv, ht⟩ := h
  have : x = 0 := by omega
  subst this
  exact ⟨hd, by simpa using hv, ht⟩
set_option maxRecDepth 100000 in
set_option maxHeartbeats 400000 in
theorem law_limbs_spec {w : World} {h : Heap} {n W : Nat} {t tw : Tok} (hW3 : 3 ≤ W) (hW8 : W ≤ 8) (h1 : n < 1073741824) : Does w 1 231 [.int n t, .int W tw] h (IsNewNat h W n) := by
  intro mean mg mb dp un gd cn cs L a ccd cl outer A₀ base h₀ m gens drawn tk os Q E B F X T hk hd hu hret
  refine' enterM [(Str.ofString "number", .int n t), (Str.ofString "w", .int W tw)] ?kB ?kF ?kX ?kT ?kk ?ho ?hcd ?hroom ?hbind ?hloc ?hco ?hgen ?hkf ?hcell ?_
  walk_at "mine cases"
  clear B F X T hk
  intro g L' h' tk' hg' F' N' B' X' T'
  dsimp only at hg'; subst hg'
  simp only [List.reverse_cons, List.reverse_nil, List.nil_append, List.cons_append, List.map_cons, List.map_nil] at F'
  k_with "exec While Compare cons nil" => refine Stop.out ?_
  k_steps
  unfold Stop
  rename_i l _ _ _ F N
  refine while_m (σ := Int × Tok × List Value × List Int × Nat) (fun c => [(Str.ofString "w", some (.int W tw)), (Str.ofString "number", some (.int c.1 c.2.1)), (Str.ofString "found", some (.ref l))])
    (fun c => [(l, listOf c.2.2.1.toArray c.2.2.2.2)]) (fun c => 0 ≤ c.1 ∧ c.1 < 1073741824 ∧ c.2.2.2.1.length ≤ 20 ∧ IntsAre c.2.2.1 c.2.2.2.1 ∧ LL W n c.1 c.2.2.2.1) (fun c => c.1.toNat) (n, t, [], [], 0) F N ⟨by simp, by simp; omega, by simp, .nil, LL.start⟩ ?_
  clear F N
  rintro ⟨x, tx, us, f, k⟩ hh tt ⟨i0, i1, i2, i3, i4⟩ F N
  dsimp only at i0 i1 i2 i3 i4 F N ⊢
  have kLen := i3.length
  k_steps
  · rename_i F N
    simp only [List.push_toArray, Int.toNat_natCast] at F N
    have e := LL.turn hW3 h1 (by assumption) i4
    exact ⟨(_, _, us ++ [_], f ++ [_], _), _, _, _, rfl, F, N, fun p hp => hp, ⟨e.1, Int.lt_trans e.2.1 i1, e.2.2.1, i3.append (.cons _ _ .nil), e.2.2.2⟩, toNat_less e.2.1 (by assumption)⟩
  · exact hret _ _ _ F.keep ⟨_, LL.done i0 (by assumption) i4, retList N (List.Mem.head _) i3⟩

theorem words_more : True := by w_top off; k_with_none; trivial
theorem set_any {prog : Program} {w : World} {A : Around} {E : Value → Shared → Prop} {s : Shared} {h₀ : Heap} {L D : Addr} {m : Str → Option Value} {news news' : List (Addr × Obj)} {vs : List Value} {v : Value} {n : Nat} {k : Int} {t : Tok} {Q : Unit → Shared → Prop}
    (F : Fr h₀ L s.heap m) (N : News h₀ L s.heap news) (U : Upd D (listOf vs.toArray n) (listOf (vs.set k.toNat v).toArray n) news news') (h0 : 0 ≤ k) (h1 : k < vs.length) (hfit : k < 2 ^ 63)
    (h : ∀ h', Fr h₀ L h' m → News h₀ L h' news' → Q () { s with heap := h' }) :
    wpAny (model prog w) A (setItem (.ref D) (.int k t) v) Q E s := by
  obtain ⟨pre, post, rfl, rfl, a, b⟩ := U.split
  have z := N (D, listOf vs.toArray n) (List.mem_append.mpr (.inr (.head _)))
  have hj : k.toNat < vs.length := by omega
  have hs : vs.toArray.size = vs.length := List.size_toArray
  refine ki_setAt z.1 h0 hfit (by rw [hs]; omega) (h _ (F.change (Heap.SameBut.update ..) z.2.1 z.2.2) (ki_turn _ N a b ?_ ?_))
  · show vs.toArray.setIfInBounds k.toNat v = (vs.set k.toNat v).toArray
    apply Array.toList_inj.mp
    simp
  · simp
theorem mul_any {prog : Program} {w : World} {A : Around} {E : Value → Shared → Prop} {s : Shared} {h₀ : Heap} {L l : Addr} {m : Str → Option Value} {news : List (Addr × Obj)} {vs rs : List Value} {k : Nat} {x : Int} {u : Tok} {Q : Value → Shared → Prop}
    (F : Fr h₀ L s.heap m) (N : News h₀ L s.heap news) (hm : (l, listOf vs.toArray k) ∈ news) (hlo : -(2 ^ 63 : Int) ≤ x) (hhi : x < 2 ^ 63) (hsz : vs.toArray.size * x.toNat ≤ 2 ^ 24)
    (e : List.foldl (fun x1 x2 => x1 ++ x2) #[] (List.replicate (if vs.toArray.isEmpty = true then 0 else x.toNat) vs.toArray) = rs.toArray)
    (h : ∀ q h', Fr h₀ L h' m → News h₀ L h' ((q, listOf rs.toArray 0) :: news) → (∀ p ∈ news, p.1 < q) → Q (.ref q) { s with heap := h' }) :
    wpAny (model prog w) A (binaryOp .Mult (.ref l) (.int x u)) Q E s :=
  mul_list F N (News.get N hm) hlo hhi hsz fun h' F' N' => h _ h' F' (by rw [e] at N'; exact N') fun p hp => Heap.lt_size (N p hp).1
theorem sub_any {prog : Program} {w : World} {A : Around} {E : Value → Shared → Prop} {s : Shared} {h₀ : Heap} {L D : Addr} {news : List (Addr × Obj)} {vs : List Value} {v : Value} {n : Nat} {k : Int} {t : Tok} {value slice : PySem.Expr} {Q : Value → Shared → Prop}
    (N : News h₀ L s.heap news) (hm : (D, listOf vs.toArray n) ∈ news) (h0 : 0 ≤ k) (hfit : k < 2 ^ 63) (hx : vs[k.toNat]? = some v) (h : Q v s)
    (hs : subscripted slice false (.ref D) (.int k t) = operate [.ref D, .int k t] (getItem (.ref D) (.int k t)) := by with_unfolding_all rfl) (hg : ∀ r, letTemporaryGo value (.ref D) r = pure () := by intro _; with_unfolding_all rfl) :
    wpAny (model prog w) A (subscriptTail value slice (.ref D) (.int k t)) Q E s :=
  item_listL ⟨_, (N _ hm).1, rfl, n, rfl⟩ h0 hfit hx h hs hg

theorem words_enterc : True := by w_top off; k_with_none; trivial
theorem enterC {prog : Program} {w : World} {A₀ : Around} {s : Shared} {base h₀ : Heap} {outer : List Env} {L : Addr} {m : Str → Option Value} {K : Frag}
    {dp un : Nat} {gd : Option (List Code)} {cn : Str} {cs : Scope} {a : Addr} {ccd : Value} {cl : List (Str × Addr)}
    {p : Program} {loose : List Str} {mean : ExcName → Option Value} {mg mb : Str → Option Value}
    {Q E : Value → Shared → Prop} {name qual : Str} {params : Arguments} {body : List Stmt} {scope : Scope} {dV kV doc pm cdv ct oc : Value} {an od : Option Addr} {osl : Array (Option Value)} {f : Addr} {args : List Value} (binds : List (Str × Value))
    (B : Below A₀ base outer h₀) (F : Fr h₀ L s.heap m) (X : K.In h₀) (T : Top p loose mean mg mb h₀) (hk : cs.kind = .function)
    (ho : K.lookup f = some ⟨oc, od, .func (fnOf name qual params body scope dV kV doc pm an cdv ct), osl⟩) (hcd : codeIn K cdv qual = true) (hroom : dp < recursionLimit)
    (hbind : BindsTo s (fnOf name qual params body scope dV kV doc pm an cdv ct) ⟨args, []⟩ binds)
    (hkind : (binds.all fun y => scope.names.lookup y.1 == some .local || scope.names.lookup y.1 == some .cell) = true)
    (hnd : ((cellsFrom 0 scope.names []).map (·.1)).Nodup)
    (hco : scope.isCoroutine = false) (hgen : scope.isGenerator = false) (hkf : scope.kind = .function)
    (h : ∀ g L' h₁ tk cells, g = s.heap → Fr g L' h₁ (bindL (envOfC qual scope L' f cdv).kindOf binds fun _ => none) → News g L' h₁ cells →
      CellsAre (bindC (envOfC qual scope L' f cdv).kindOf binds fun _ => none) (cellsFrom (L' + 1) scope.names []) cells → Below (ktrTop dp un gd cn cs L a ccd cl outer) base (envX cn cs L a ccd cl :: outer) g → K.In g → Top p loose mean mg mb g →
      wpAny (model prog w) (ktrTop (dp + 1) (un + 3) gd qual scope L' f cdv (cellsFrom (L' + 1) scope.names []) (envX cn cs L a ccd cl :: outer)) (execs body (envOfC qual scope L' f cdv))
        (fun fl s' => Q (match fl with | .ret v => v | _ => .none) s') (fun _ _ => False)
        { s with heap := h₁, toks := tk }) :
    wpAny (model prog w) (ktrTop dp un gd cn cs L a ccd cl outer) (call (.ref f) args) Q E s := by
  have B1 := pushX (env := envX cn cs L a ccd cl) B F rfl hk
  have B' : Below (ktrTop dp un gd cn cs L a ccd cl outer) base (envX cn cs L a ccd cl :: outer) s.heap := ⟨rfl, B1.stays, B1.frames⟩
  refine wpAny_call ?_
  refine codeAny_call_function hroom (X.keeps F.keep _ _ ho) rfl hco hgen rfl (codeRec_of (X.keeps F.keep) hcd) (hbind _ _ _ _ ?_)
  refine wpAny_newFunctionEnv_cells hkf (kindsX hkind _) fun env' he s' x => ?_
  subst he
  refine ⟨(T.nolimit.keeps F.keep).keeps x.toInCall.keep, codeAny_func ?_⟩
  obtain ⟨h₁, tk, rfl, _⟩ := x.done
  have hk₁ := x.toInCall.keep
  obtain ⟨cells, NC, Y⟩ := Cl.news (h₀ := s.heap) (Nat.le_refl _) fun n c hm => ⟨x.cell n c (lookup_of_mem_nodup (cellsFrom_names scope.names 0 (s.heap.objs.size + 1) [] [] rfl ▸ hnd) hm), x.above n c hm⟩
  exact wpAny_mono (h s.heap s.heap.objs.size h₁ tk cells rfl ⟨x.toInCall.ns, hk₁, Nat.le_refl _⟩ NC Y B' (X.keeps F.keep) (T.keeps F.keep)) (fun fl s' hl => hl) fun _ _ y => y.elim

theorem words_swexp : True := by w_top off; k_with_none; trivial
theorem words_swexp_0 : True := by
  k_with "own pyIter ref" => (walk_at "last pyIter ref")
  trivial
set_option maxRecDepth 100000 in
set_option maxHeartbeats 1000000 in
theorem swexp22_spec {w : World} {h : Heap} {t1 t2 : Tok} : Does w 1 149 [.int 2 t1, .int 2 t2] h (fun _ r => ∃ t, r = .int 1 t) := by
  intro mean mg mb dp un gd cn cs L a ccd cl outer A₀ base h₀ m gens drawn tk os Q E B F X T hk hd hu hret
  refine' enterM [(Str.ofString "n", .int 2 t1), (Str.ofString "prime", .int 2 t2)] ?kB ?kF ?kX ?kT ?kk ?ho ?hcd ?hroom ?hbind ?hloc ?hco ?hgen ?hkf ?hcell ?_
  walk_at "mine cases"
  clear B F X T hk
  intro g L' h' tk' hg' F' N' B' X' T'
  dsimp only at hg'; subst hg'
  simp only [List.reverse_cons, List.reverse_nil, List.nil_append, List.cons_append, List.map_cons, List.map_nil] at F'
  k_steps
  exact hret _ _ _ (Fr.keep (by assumption)) ⟨_, rfl⟩
set_option maxRecDepth 100000 in
set_option maxHeartbeats 1000000 in
theorem swexp32_spec {w : World} {h : Heap} {t1 t2 : Tok} : Does w 1 149 [.int 3 t1, .int 2 t2] h (fun _ r => ∃ t, r = .int 1 t) := by
  intro mean mg mb dp un gd cn cs L a ccd cl outer A₀ base h₀ m gens drawn tk os Q E B F X T hk hd hu hret
  refine' enterM [(Str.ofString "n", .int 3 t1), (Str.ofString "prime", .int 2 t2)] ?kB ?kF ?kX ?kT ?kk ?ho ?hcd ?hroom ?hbind ?hloc ?hco ?hgen ?hkf ?hcell ?_
  walk_at "mine cases"
  clear B F X T hk
  intro g L' h' tk' hg' F' N' B' X' T'
  dsimp only at hg'; subst hg'
  simp only [List.reverse_cons, List.reverse_nil, List.nil_append, List.cons_append, List.map_cons, List.map_nil] at F'
  k_steps
  exact hret _ _ _ (Fr.keep (by assumption)) ⟨_, rfl⟩
set_option maxRecDepth 100000 in
set_option maxHeartbeats 1000000 in
theorem swexp33_spec {w : World} {h : Heap} {t1 t2 : Tok} : Does w 1 149 [.int 3 t1, .int 3 t2] h (fun _ r => ∃ t, r = .int 1 t) := by
  intro mean mg mb dp un gd cn cs L a ccd cl outer A₀ base h₀ m gens drawn tk os Q E B F X T hk hd hu hret
  refine' enterM [(Str.ofString "n", .int 3 t1), (Str.ofString "prime", .int 3 t2)] ?kB ?kF ?kX ?kT ?kk ?ho ?hcd ?hroom ?hbind ?hloc ?hco ?hgen ?hkf ?hcell ?_
  walk_at "mine cases"
  clear B F X T hk
  intro g L' h' tk' hg' F' N' B' X' T'
  dsimp only at hg'; subst hg'
  simp only [List.reverse_cons, List.reverse_nil, List.nil_append, List.cons_append, List.map_cons, List.map_nil] at F'
  k_steps
  exact hret _ _ _ (Fr.keep (by assumption)) ⟨_, rfl⟩
set_option maxRecDepth 100000 in
set_option maxHeartbeats 1000000 in
theorem swexp42_spec {w : World} {h : Heap} {t1 t2 : Tok} : Does w 1 149 [.int 4 t1, .int 2 t2] h (fun _ r => ∃ t, r = .int 1 t) := by
  intro mean mg mb dp un gd cn cs L a ccd cl outer A₀ base h₀ m gens drawn tk os Q E B F X T hk hd hu hret
  refine' enterM [(Str.ofString "n", .int 4 t1), (Str.ofString "prime", .int 2 t2)] ?kB ?kF ?kX ?kT ?kk ?ho ?hcd ?hroom ?hbind ?hloc ?hco ?hgen ?hkf ?hcell ?_
  walk_at "mine cases"
  clear B F X T hk
  intro g L' h' tk' hg' F' N' B' X' T'
  dsimp only at hg'; subst hg'
  simp only [List.reverse_cons, List.reverse_nil, List.nil_append, List.cons_append, List.map_cons, List.map_nil] at F'
  k_steps
  exact hret _ _ _ (Fr.keep (by assumption)) ⟨_, rfl⟩
set_option maxRecDepth 100000 in
set_option maxHeartbeats 1000000 in
theorem swexp43_spec {w : World} {h : Heap} {t1 t2 : Tok} : Does w 1 149 [.int 4 t1, .int 3 t2] h (fun _ r => ∃ t, r = .int 1 t) := by
  intro mean mg mb dp un gd cn cs L a ccd cl outer A₀ base h₀ m gens drawn tk os Q E B F X T hk hd hu hret
  refine' enterM [(Str.ofString "n", .int 4 t1), (Str.ofString "prime", .int 3 t2)] ?kB ?kF ?kX ?kT ?kk ?ho ?hcd ?hroom ?hbind ?hloc ?hco ?hgen ?hkf ?hcell ?_
  walk_at "mine cases"
  clear B F X T hk
  intro g L' h' tk' hg' F' N' B' X' T'
  dsimp only at hg'; subst hg'
  simp only [List.reverse_cons, List.reverse_nil, List.nil_append, List.cons_append, List.map_cons, List.map_nil] at F'
  k_steps
  exact hret _ _ _ (Fr.keep (by assumption)) ⟨_, rfl⟩

theorem words_add : True := by w_top off; k_with_none; trivial
def AddInv (W : Nat) (na nb : List Int) (i : Nat) (carry : Int) (f : List Int) : Prop := Dig W f ∧ f.length = i ∧ 0 ≤ carry ∧ carry ≤ 1 ∧ val W f + 2 ^ (W * i) * carry = val W (na.take i) + val W (nb.take i)
theorem AddInv.start {W : Nat} {na nb : List Int} : AddInv W na nb 0 0 [] := ⟨Dig.nil _, rfl, by simp, by simp, by simp [val]⟩
theorem add_val {W i : Nat} {na nb f : List Int} {c a b : Int} (hl : f.length = i) (hv : val W f + 2 ^ (W * i) * c = val W (List.take i na) + val W (List.take i nb)) (ea : a = na.getD i 0) (eb : b = nb.getD i 0)
    (e3 : 2 ^ W * ((c + (a + b)) / 2 ^ W) + (c + (a + b)) % 2 ^ W = c + (a + b)) :
    val W (f ++ [(c + (a + b)) % 2 ^ W]) + 2 ^ (W * (i + 1)) * ((c + (a + b)) / 2 ^ W) = val W (List.take (i + 1) na) + val W (List.take (i + 1) nb) := by
  rw [val_snoc, val_take_succ, val_take_succ, ← ea, ← eb, hl, Nat.mul_add, Nat.mul_one, Int.pow_add, carry_step e3]
  grind
theorem AddInv.turn {W : Nat} {na nb f : List Int} {i : Nat} {c : Int} (hW : 0 < W) (ha : Dig W na) (hb : Dig W nb) (h : AddInv W na nb i c f) :
    AddInv W na nb (i + 1) ((c + (na.getD i 0 + nb.getD i 0)) / 2 ^ W) (f ++ [(c + (na.getD i 0 + nb.getD i 0)) % 2 ^ W]) := by
  obtain ⟨hd, hl, h0, h1, hv⟩ := h
  have hp := powGt W hW
  have a1 := ha.getD i
  have b1 := hb.getD i
  generalize ea : na.getD i 0 = a at *
  generalize eb : nb.getD i 0 = b at *
  have e1 := Int.emod_nonneg (c + (a + b)) (by omega : (2 : Int) ^ W ≠ 0)
  have e2 := Int.emod_lt_of_pos (c + (a + b)) (by omega : (0 : Int) < 2 ^ W)
  have e3 := Int.mul_ediv_add_emod (c + (a + b)) (2 ^ W)
  refine ⟨hd.snoc e1 e2, by simp [hl], Int.ediv_nonneg (by omega) (by omega), ?_, ?_⟩
  · have : (c + (a + b)) / 2 ^ W < 2 := Int.ediv_lt_of_lt_mul (by omega) (by omega)
    omega
  · exact add_val hl hv ea.symm eb.symm e3
theorem AddInv.done0 {W x y : Nat} {na nb f : List Int} {c : Int} (hx : Canon W x na) (hy : Canon W y nb) (hl : nb.length ≤ na.length) (hc : ¬ 0 < c) (h : AddInv W na nb na.length c f) : Canon W (x + y) f := by
  obtain ⟨hd, hfl, h0, h1, hv⟩ := h
  have : c = 0 := by omega
  subst this
  rw [List.take_length, List.take_of_length_le hl, hx.val, hy.val] at hv
  refine ⟨hd, by omega, fun hne => ?_⟩
  have : na ≠ [] := by
    rintro rfl
    simp at hfl; exact hne hfl
  have := hx.top this
  rw [hfl]; omega
theorem AddInv.done1 {W x y : Nat} {na nb f : List Int} {c : Int} (hW : 0 < W) (hx : Canon W x na) (hy : Canon W y nb) (hl : nb.length ≤ na.length) (hc : 0 < c) (h : AddInv W na nb na.length c f) : Canon W (x + y) (f ++ [c]) := by
  obtain ⟨hd, hfl, h0, h1, hv⟩ := h
  have hp := powGt W hW
  have : c = 1 := by omega
  subst this
  rw [List.take_length, List.take_of_length_le hl, hx.val, hy.val] at hv
  have := hd.val_nonneg
  refine ⟨hd.snoc (by omega) (by omega), by rw [val_snoc, hfl]; omega, fun hne => ?_⟩
  rw [List.length_append, List.length_singleton, Nat.add_sub_cancel, hfl]; omega
def AddJ (g : Heap) (L' : Addr) (gens : Array GenState) (drawn : Drawn) (os : OsState) (W : Nat) (tw : Tok) (z : Nat) (s' : Shared) : Prop :=
  ∃ (x' y' : Nat) (la lb : Addr) (va vb : List Value) (na nb : List Int) (hh : Heap) (tk : Nat), s' = ⟨hh, gens, drawn, tk, os⟩ ∧ Fr g L' hh (mapOf [(Str.ofString "w", some (.int W tw)), (Str.ofString "b", some (.ref lb)), (Str.ofString "a", some (.ref la))]) ∧
    g.IsList la va.toArray ∧ IntsAre va na ∧ Canon W x' na ∧ g.IsList lb vb.toArray ∧ IntsAre vb nb ∧ Canon W y' nb ∧ nb.length ≤ na.length ∧ x' + y' = z ∧ x' < 1073741824 ∧ y' < 1073741824
set_option maxRecDepth 100000 in
set_option maxHeartbeats 1000000 in
theorem add_spec {w : World} {h : Heap} {x y W : Nat} {tw : Tok} {la lb : Addr} {va vb : List Value} {na nb : List Int} (hW3 : 3 ≤ W) (hW8 : W ≤ 8) (hA : h.IsList la va.toArray) (hAi : IntsAre va na) (hAc : Canon W x na) (hB : h.IsList lb vb.toArray) (hBi : IntsAre vb nb) (hBc : Canon W y nb)
    (hx : x < 1073741824) (hy : y < 1073741824) :
    Does w 1 79 [.ref la, .ref lb, .int W tw] h (IsNewNat h W (x + y)) := by
  intro mean mg mb dp un gd cn cs L a ccd cl outer A₀ base h₀ m gens drawn tk os Q E B F X T hk hd hu hret
  refine' enterM [(Str.ofString "a", .ref la), (Str.ofString "b", .ref lb), (Str.ofString "w", .int W tw)] ?kB ?kF ?kX ?kT ?kk ?ho ?hcd ?hroom ?hbind ?hloc ?hco ?hgen ?hkf ?hcell ?_
  walk_at "mine cases"
  clear B F X T hk
  intro g L' h' tk' hg' F' N' B' X' T'
  dsimp only at hg'; subst hg'
  simp only [List.reverse_cons, List.reverse_nil, List.nil_append, List.cons_append, List.map_cons, List.map_nil] at F'
  have hAl := hAc.len30 hW3 hx
  have hBl := hBc.len30 hW3 hy
  refine if_join (AddJ g L' gens drawn os W tw (x + y)) ?_ ?_
  · k_steps
    · exact ⟨rfl, y, x, lb, la, vb, va, nb, na, _, _, rfl, by assumption, hB, hBi, hBc, hA, hAi, hAc, by omega, by omega, hy, hx⟩
    · exact ⟨rfl, x, y, la, lb, va, vb, na, nb, _, _, rfl, by assumption, hA, hAi, hAc, hB, hBi, hBc, by omega, rfl, hx, hy⟩
  clear hA hAi hAc hB hBi hBc hAl hBl F' N'
  rintro _ ⟨x', y', la, lb, va, vb, na, nb, hh, tk, rfl, F', hA, hAi, hAc, hB, hBi, hBc, hlen, exy, hx', hy'⟩
  have N' : News g L' hh [] := News.nil
  have hAl := hAc.len30 hW3 hx'
  have hBl := hBc.len30 hW3 hy'
  k_with "pyIter ref" => refine Stop.out ?_
  k_steps
  unfold Stop
  rename_i l _ _ _ _ _ _ _ _ _ _ _ _ tk3 t1 u1 v1 R F N Ek
  rw [← mapOf_declare (Str.ofString "at")] at F
  refine for_range_m (n := nb.length) (σ := Int × Tok × List Value × List Int × Nat)
    (fun c u => [(Str.ofString "w", some (.int W tw)), (Str.ofString "b", some (.ref lb)), (Str.ofString "a", some (.ref la)), (Str.ofString "mask", some (.int (1 * 2 ^ (W : Int).toNat - 1) _)), (Str.ofString "carry", some (.int c.1 c.2.1)), (Str.ofString "found", some (.ref l)), (Str.ofString "at", u)])
    (fun c => [(l, listOf c.2.2.1.toArray c.2.2.2.2)]) (fun i c => IntsAre c.2.2.1 c.2.2.2.1 ∧ AddInv W na nb i c.1 c.2.2.2.1) (0, _, [], [], 0) none (fun _ _ _ => by with_unfolding_all rfl) R
    (small_one (by omega) (by omega) (by omega) (by omega)) (by rw [rangeSize_nat]; omega) F (N.perm (fun p hp => .tail _ hp)) ⟨.nil, .start⟩ ?_ ?_
  · clear F N R Ek
    rintro i ⟨c, tc, us, f, k⟩ t hh tt own hi hoff ⟨i1, i2⟩ F N
    dsimp only at i1 i2 F N ⊢
    have kLen := i1.length
    have fl := i2.2.1
    have fc := i2.2.2.1
    have fd := i2.2.2.2.1
    k_steps
    rename_i F N
    have e := AddInv.turn (by omega) hAc.dig hBc.dig i2
    rw [show ((0 : Int) + (i : Int)).toNat = i by omega] at F N
    simp only [List.push_toArray, Int.toNat_natCast, mask_eq, fdiv_eq, List.append_eq, List.nil_append] at F N
    exact ⟨(_, _, us ++ [_], f ++ [_], _), _, _, _, _, rfl, F, N, (fun p hp => List.mem_append_left own hp), (fun p hp => .tail _ hp), rfl, i1.append (.cons _ _ .nil), e⟩
  clear F N R Ek
  rintro ⟨c, tc, us, f, k⟩ u hh tt ⟨i1, i2⟩ F N
  dsimp only at i1 i2 F N ⊢
  k_steps
  unfold Stop
  rename_i tk3 t1 u1 v1 R F N Ek
  have eb : nb.take nb.length = nb.take na.length := by rw [List.take_length, List.take_of_length_le hlen]
  refine for_range_m (n := na.length - nb.length) (σ := Int × Tok × List Value × List Int × Nat)
    (fun c u => [(Str.ofString "w", some (.int W tw)), (Str.ofString "b", some (.ref lb)), (Str.ofString "a", some (.ref la)), (Str.ofString "mask", some (.int (1 * 2 ^ (W : Int).toNat - 1) _)), (Str.ofString "carry", some (.int c.1 c.2.1)), (Str.ofString "found", some (.ref l)), (Str.ofString "at", u)])
    (fun c => [(l, listOf c.2.2.1.toArray c.2.2.2.2)]) (fun i c => IntsAre c.2.2.1 c.2.2.2.1 ∧ AddInv W na nb (nb.length + i) c.1 c.2.2.2.1) (c, tc, us, f, k) _ (fun _ _ _ => by with_unfolding_all rfl) R
    (small_one (by omega) (by omega) (by omega) (by omega)) (by rw [rangeSize_nat]; omega) F (N.perm (fun p hp => hp)) ⟨i1, i2⟩ ?_ ?_
  · clear F N R Ek i1 i2
    rintro i ⟨c, tc, us, f, k⟩ t hh tt own hi hoff ⟨i1, i2⟩ F N
    dsimp only at i1 i2 F N ⊢
    have kLen := i1.length
    have fl := i2.2.1
    have fc := i2.2.2.1
    have fd := i2.2.2.2.1
    have e := AddInv.turn (by omega) hAc.dig hBc.dig i2
    have ez : nb.getD (nb.length + i) 0 = 0 := by simp
    rw [ez, Int.add_zero] at e
    k_steps
    rename_i F N
    rw [show ((nb.length : Int) + (i : Int)).toNat = nb.length + i by omega] at F N
    simp only [List.push_toArray, Int.toNat_natCast, mask_eq, fdiv_eq, List.append_eq, List.nil_append] at F N
    exact ⟨(_, _, us ++ [_], f ++ [_], _), _, _, _, _, rfl, F, N, (fun p hp => List.mem_append_left own hp), (fun p hp => .tail _ hp), rfl, i1.append (.cons _ _ .nil), e⟩
  clear F N R Ek i1 i2
  rintro ⟨c, tc, us, f, k⟩ u hh tt ⟨i1, i2⟩ F N
  dsimp only at i1 i2 F N ⊢
  rw [Nat.add_sub_cancel' hlen] at i2
  have kLen := i1.length
  have fl := i2.2.1
  k_steps
  · rename_i F N
    simp only [List.push_toArray] at N
    rw [← exy] at hret
    exact hret _ _ _ F.keep ⟨_, AddInv.done1 (by omega) hAc hBc hlen (by assumption) i2, retList N (List.Mem.head _) (i1.append (.cons _ _ .nil))⟩
  · rw [← exy] at hret
    exact hret _ _ _ F.keep ⟨_, AddInv.done0 hAc hBc hlen (by assumption) i2, retList N (List.Mem.head _) i1⟩

theorem words_nat_ones : True := by w_top off; k_with_none; trivial
theorem words_nat_ones_0 : True := by
  k_with "own call ref" => (((with_reducible show wpAny _ _ (call (Value.ref 21) _) _ _ _); k_dflt (refine' Does.int (limb_ones_spec ?a1 ?a2) ?k1 ?k2 ?k3 ?k4 ?k5 ?k6 ?k7 ?k8 ?_; (case a1 => walk_at "mine limb"); (case a2 => walk_at "mine limb"); (case k1 => k_asm); (case k2 => k_asm); (case k3 => k_asm); (case k4 => k_asm); (case k5 => k_asm); (case k6 => exact rfl); (case k7 => omega); (case k8 => omega); k_whole); intro _ _ _ _ _ _; (try dsimp only)))
  k_with "own SeqLeaf" => ((refine' SeqLeaf.intro ⟨?c, ?k⟩; (case c => exact Carried.int _ _); (case k => exact ⟨_, _, rfl, by assumption⟩)))
  k_with "mine limb" => (first | exact (‹∀ x ∈ _, (0 : Int) ≤ x ∧ x < 256› _ (by assumption)).1 | exact (‹∀ x ∈ _, (0 : Int) ≤ x ∧ x < 256› _ (by assumption)).2)
  trivial
set_option maxRecDepth 100000 in
set_option maxHeartbeats 1000000 in
theorem nat_ones_spec {w : World} {h : Heap} {la : Addr} {va : List Value} {na : List Int} (hA : h.IsList la va.toArray) (hAi : IntsAre va na) (hl : na.length ≤ 20) (hd : ∀ x ∈ na, 0 ≤ x ∧ x < 256) :
    Does w 2 26 [.ref la] h (fun _ r => ∃ t, r = .int ((na.map popc).sum) t) := by
  intro mean mg mb dp un gd cn cs L a ccd cl outer A₀ base h₀ m gens drawn tk os Q E B F X T hk hd hu hret
  refine' enterM [(Str.ofString "a", .ref la)] ?kB ?kF ?kX ?kT ?kk ?ho ?hcd ?hroom ?hbind ?hloc ?hco ?hgen ?hkf ?hcell ?_
  walk_at "mine cases"
  clear B F X T hk
  intro g L' h' tk' hg' F' N' B' X' T'
  dsimp only at hg'; subst hg'
  simp only [List.reverse_cons, List.reverse_nil, List.nil_append, List.cons_append, List.map_cons, List.map_nil] at F'
  k_with "call builtin:sum" => refine Stop.out ?_
  k_steps
  unfold Stop
  rename_i ys h2 tk2 F N fr hl2 np hc
  rw [List.filter_eq_self.mpr (fun _ _ => rfl)] at hc
  have hi2 : IntsAre ys (na.map popc) := IntsAre.ofCarried (by rw [List.map_map]; exact hc)
  refine sumK rfl F N hl2 hi2 ?_
  intro h3 tk3 t3 F N
  exact hret _ _ _ F.keep ⟨_, rfl⟩

theorem words_nat_of : True := by w_top off; k_with_none; trivial
set_option maxRecDepth 100000 in
set_option maxHeartbeats 400000 in
theorem nat_of_spec {w : World} {h : Heap} {n W : Nat} {t tw : Tok} (hW3 : 3 ≤ W) (hW8 : W ≤ 8) (h1 : n < 1073741824) : Does w 1 65 [.int n t, .int W tw] h (IsNewNat h W n) := by
  intro mean mg mb dp un gd cn cs L a ccd cl outer A₀ base h₀ m gens drawn tk os Q E B F X T hk hd hu hret
  refine' enterM [(Str.ofString "number", .int n t), (Str.ofString "w", .int W tw)] ?kB ?kF ?kX ?kT ?kk ?ho ?hcd ?hroom ?hbind ?hloc ?hco ?hgen ?hkf ?hcell ?_
  walk_at "mine cases"
  clear B F X T hk
  intro g L' h' tk' hg' F' N' B' X' T'
  dsimp only at hg'; subst hg'
  simp only [List.reverse_cons, List.reverse_nil, List.nil_append, List.cons_append, List.map_cons, List.map_nil] at F'
  k_with "exec While Compare cons nil" => refine Stop.out ?_
  have hn0 : ¬ (n : Int) < 0 := by omega
  k_steps
  unfold Stop
  rename_i l _ _ _ _ _ _ _ _ F N
  refine while_m (σ := Int × Tok × List Value × List Int × Nat) (fun c => [(Str.ofString "w", some (.int W tw)), (Str.ofString "number", some (.int c.1 c.2.1)), (Str.ofString "mask", some (.int (1 * 2 ^ (W : Int).toNat - 1) _)), (Str.ofString "found", some (.ref l))])
    (fun c => [(l, listOf c.2.2.1.toArray c.2.2.2.2)]) (fun c => 0 ≤ c.1 ∧ c.1 < 1073741824 ∧ c.2.2.2.1.length ≤ 20 ∧ IntsAre c.2.2.1 c.2.2.2.1 ∧ LL W n c.1 c.2.2.2.1) (fun c => c.1.toNat) (n, t, [], [], 0) F (N.perm (fun p hp => List.Mem.tail _ hp)) ⟨by simp, by simp; omega, by simp, .nil, LL.start⟩ ?_
  clear F N
  rintro ⟨x, tx, us, f, k⟩ hh tt ⟨i0, i1, i2, i3, i4⟩ F N
  dsimp only at i0 i1 i2 i3 i4 F N ⊢
  have kLen := i3.length
  k_steps
  · rename_i F N
    simp only [List.push_toArray, Int.toNat_natCast, mask_eq, fdiv_eq] at F N
    have e := LL.turn hW3 h1 (by assumption) i4
    rw [fdiv_eq, fmod_eq] at e
    exact ⟨(_, _, us ++ [_], f ++ [_], _), _, _, _, rfl, F, N, fun p hp => hp, ⟨e.1, Int.lt_trans e.2.1 i1, e.2.2.1, i3.append (.cons _ _ .nil), e.2.2.2⟩, toNat_less e.2.1 (by assumption)⟩
  · exact hret _ _ _ F.keep ⟨_, LL.done i0 (by assumption) i4, retList N (List.Mem.head _) i3⟩

theorem words_shift_left : True := by w_top off; k_with_none; trivial
theorem bitOr_nat (m k : Nat) : Builtin.bitOr (m : Int) (k : Int) = ((m ||| k : Nat) : Int) := by
  unfold Builtin.bitOr Builtin.bitAnd Builtin.bitNot
  have h1 : decide ((0 : Int) ≤ -(m : Int) - 1) = false := by simp; omega
  have h2 : decide ((0 : Int) ≤ -(k : Int) - 1) = false := by simp; omega
  simp only [h1, h2]
  have e1 : (-(-(m : Int) - 1) - 1).toNat = m := by omega
  have e2 : (-(-(k : Int) - 1) - 1).toNat = k := by omega
  rw [e1, e2]
  omega
theorem bitOr_add {c a : Int} {r : Nat} (h0 : 0 ≤ c) (h1 : c < 2 ^ r) (ha : 0 ≤ a) : Builtin.bitOr c (a * 2 ^ r) = c + a * 2 ^ r := by
  obtain ⟨m, rfl⟩ : ∃ m : Nat, c = m := ⟨c.toNat, by omega⟩
  obtain ⟨k, rfl⟩ : ∃ k : Nat, a = k := ⟨a.toNat, by omega⟩
  have e : (k : Int) * 2 ^ r = ((2 ^ r * k : Nat) : Int) := by rw [Int.natCast_mul, powNat, Int.mul_comm]
  have hm : m < 2 ^ r := by have := powNat r; omega
  rw [e, bitOr_nat, Nat.or_comm, ← Nat.two_pow_add_eq_or_of_lt hm]
  omega
def ShInv (W : Nat) (na : List Int) (q r i : Nat) (c : Int) (f : List Int) : Prop := Dig W f ∧ f.length = q + i ∧ 0 ≤ c ∧ c < 2 ^ r ∧ val W f + 2 ^ (W * (q + i)) * c = 2 ^ (W * q + r) * val W (na.take i)
theorem val_zeros (W n : Nat) : val W (List.replicate n 0) = 0 := by
  induction n with
  | zero => rfl
  | succ n ih => rw [List.replicate_succ, val, ih]; simp
theorem dig_zeros (W n : Nat) : Dig W (List.replicate n 0) := fun x hx => by
  rw [(List.mem_replicate.mp hx).2]; exact ⟨Int.le_refl _, powPos W⟩
theorem ShInv.start {W q r : Nat} {na : List Int} : ShInv W na q r 0 0 (List.replicate q 0) :=
  ⟨dig_zeros _ _, by simp, Int.le_refl _, powPos r, by simp [val_zeros, val]⟩
theorem sh_val {W q r i : Nat} {na f : List Int} {c a : Int} (hl : f.length = q + i) (hv : val W f + 2 ^ (W * (q + i)) * c = 2 ^ (W * q + r) * val W (na.take i)) (ea : na.getD i 0 = a) (e3 : 2 ^ W * ((c + a * 2 ^ r) / 2 ^ W) + (c + a * 2 ^ r) % 2 ^ W = c + a * 2 ^ r) :
    val W (f ++ [(c + a * 2 ^ r) % 2 ^ W]) + 2 ^ (W * (q + (i + 1))) * ((c + a * 2 ^ r) / 2 ^ W) = 2 ^ (W * q + r) * val W (na.take (i + 1)) := by
  rw [val_snoc, val_take_succ, ea, hl, show q + (i + 1) = q + i + 1 by omega, Nat.mul_add W (q + i) 1, Nat.mul_one, Int.pow_add, carry_step e3]
  rw [Int.mul_add (2 ^ (W * q + r)), ← hv, Nat.mul_add, Int.pow_add, Int.pow_add]
  grind
theorem ShInv.turn {W q r i : Nat} {na f : List Int} {c a : Int} (hd : Dig W na) (ea : na.getD i 0 = a) (h : ShInv W na q r i c f) :
    ShInv W na q r (i + 1) ((c + a * 2 ^ r) / 2 ^ W) (f ++ [(c + a * 2 ^ r) % 2 ^ W]) := by
  obtain ⟨hf, hl, h0, h1, hv⟩ := h
  have a1 := hd.getD i
  rw [ea] at a1
  have hp := powPos W
  have hr := powPos r
  have e0 : 0 ≤ a * 2 ^ r := Int.mul_nonneg a1.1 (by omega)
  have e1 := Int.emod_nonneg (c + a * 2 ^ r) (by omega : (2 : Int) ^ W ≠ 0)
  have e2 := Int.emod_lt_of_pos (c + a * 2 ^ r) hp
  have e3 := Int.mul_ediv_add_emod (c + a * 2 ^ r) (2 ^ W)
  have e4 : (a + 1) * 2 ^ r ≤ 2 ^ W * 2 ^ r := Int.mul_le_mul_of_nonneg_right (by omega) (by omega)
  refine ⟨hf.snoc e1 e2, by simp [hl]; omega, Int.ediv_nonneg (by omega) (by omega), Int.ediv_lt_of_lt_mul (by omega) ?_, sh_val hl hv ea e3⟩
  rw [Int.mul_comm (2 ^ r)]
  rw [Int.add_mul] at e4
  omega
theorem ShInv.fin {W q r x n : Nat} {na f : List Int} {c : Int} (hx : Canon W x na) (hn : W * q + r = n) (h : ShInv W na q r na.length c f) : val W f + 2 ^ (W * (q + na.length)) * c = ((x * 2 ^ n : Nat) : Int) := by
  obtain ⟨hf, hl, h0, h1, hv⟩ := h
  rw [hv, List.take_length, hx.val, hn, Int.natCast_mul, powNat, Int.mul_comm]
theorem ShInv.done1 {W q r x n : Nat} {na f : List Int} {c : Int} (hx : Canon W x na) (hr : r ≤ W) (hn : W * q + r = n) (hc : 0 < c) (h : ShInv W na q r na.length c f) : Canon W (x * 2 ^ n) (f ++ [c]) := by
  have e := h.fin hx hn
  obtain ⟨hf, hl, h0, h1, hv⟩ := h
  have hrW : (2 : Nat) ^ r ≤ 2 ^ W := Nat.pow_le_pow_right (by decide) hr
  have := powNat r
  have := powNat W
  refine ⟨hf.snoc h0 (by omega), by rw [val_snoc, hl]; exact e, fun _ => ?_⟩
  rw [List.length_append, List.length_singleton, Nat.add_sub_cancel, hl, ← e]
  have := hf.val_nonneg
  have : (2 : Int) ^ (W * (q + na.length)) * 1 ≤ 2 ^ (W * (q + na.length)) * c := Int.mul_le_mul_of_nonneg_left (by omega) (Int.le_of_lt (powPos _))
  omega
theorem ShInv.done0 {W q r x n : Nat} {na f : List Int} {c : Int} (hx : Canon W x na) (hn : W * q + r = n) (hne : na.length ≠ 0) (hc : ¬ 0 < c) (h : ShInv W na q r na.length c f) : Canon W (x * 2 ^ n) f := by
  have e := h.fin hx hn
  obtain ⟨hf, hl, h0, h1, hv⟩ := h
  have : c = 0 := by omega
  subst this
  refine ⟨hf, by rw [← e]; simp, fun _ => ?_⟩
  have t := hx.top (by rintro rfl; simp at hne)
  rw [hl, show q + na.length - 1 = (na.length - 1) + q by omega, Nat.mul_add, Int.pow_add, Int.natCast_mul, powNat, ← hn, Int.pow_add]
  have p1 := powPos (W * q)
  have p2 := powPos r
  have p3 := powPos (W * (na.length - 1))
  have h3 : (2 : Int) ^ (W * q) * 1 ≤ 2 ^ (W * q) * 2 ^ r := Int.mul_le_mul_of_nonneg_left (by omega) (by omega)
  have h4 : (2 : Int) ^ (W * (na.length - 1)) * 2 ^ (W * q) ≤ x * 2 ^ (W * q) := Int.mul_le_mul_of_nonneg_right t (by omega)
  have h5 : (x : Int) * (2 ^ (W * q) * 1) ≤ x * (2 ^ (W * q) * 2 ^ r) := Int.mul_le_mul_of_nonneg_left h3 (by omega)
  rw [Int.mul_one] at h5
  omega
set_option maxRecDepth 100000 in
set_option maxHeartbeats 1000000 in
theorem shift_left_spec {w : World} {h : Heap} {x n W : Nat} {tn tw : Tok} {la : Addr} {va : List Value} {na : List Int} (hW3 : 3 ≤ W) (hW8 : W ≤ 8) (hA : h.IsList la va.toArray) (hAi : IntsAre va na) (hAc : Canon W x na)
    (hx : x < 1073741824) (hn : n ≤ 6) :
    Does w 1 100 [.ref la, .int n tn, .int W tw] h (IsNewNat h W (x * 2 ^ n)) := by
  intro mean mg mb dp un gd cn cs L a ccd cl outer A₀ base h₀ m gens drawn tk os Q E B F X T hk hd hu hret
  refine' enterM [(Str.ofString "a", .ref la), (Str.ofString "n", .int n tn), (Str.ofString "w", .int W tw)] ?kB ?kF ?kX ?kT ?kk ?ho ?hcd ?hroom ?hbind ?hloc ?hco ?hgen ?hkf ?hcell ?_
  walk_at "mine cases"
  clear B F X T hk
  intro g L' h' tk' hg' F' N' B' X' T'
  dsimp only at hg'; subst hg'
  simp only [List.reverse_cons, List.reverse_nil, List.nil_append, List.cons_append, List.map_cons, List.map_nil] at F'
  have hAl := hAc.len30 hW3 hx
  have eq : (n : Int).fdiv (W : Int) = ((n / W : Nat) : Int) := by rw [Int.fdiv_eq_ediv_of_nonneg _ (by omega)]; exact (Int.natCast_ediv n W).symm
  have er : (n : Int).fmod (W : Int) = ((n % W : Nat) : Int) := by rw [Int.fmod_eq_emod_of_nonneg _ (by omega)]; exact (Int.natCast_emod n W).symm
  have hq : n / W ≤ 2 := by
    have : n / W ≤ 6 / W := Nat.div_le_div_right hn
    have : 6 / W ≤ 6 / 3 := Nat.div_le_div_left hW3 (by decide)
    omega
  have hr : n % W < W := Nat.mod_lt _ (by omega)
  have q0 : 0 ≤ (n : Int).fdiv (W : Int) := by rw [eq]; exact Int.natCast_nonneg _
  have q1 : (n : Int).fdiv (W : Int) ≤ 2 := by rw [eq]; exact Int.ofNat_le.mpr hq
  have r0 : 0 ≤ (n : Int).fmod (W : Int) := by rw [er]; exact Int.natCast_nonneg _
  have r1 : (n : Int).fmod (W : Int) < 8 := by rw [er]; have := Int.ofNat_lt.mpr (show n % W < 8 by omega); simpa using this
  k_with "pyIter ref" => refine Stop.out ?_
  k_steps
  · rename_i l _ F N _
    have hx0 : x = 0 := by
      rcases Nat.eq_zero_or_pos x with e | e
      · exact e
      · have := hAc.pos.mpr e; omega
    refine hret _ _ _ F.keep ⟨[], ?_, retList N (List.Mem.head _) .nil⟩
    rw [hx0, Nat.zero_mul]; exact Canon.nil
  unfold Stop
  rename_i el _ _ _ _ _ _ _ _ _ l _ iL _ _ _ _ _ _ _ _ _ _ _ _ _ F N
  have hsp : ((n : Int).fdiv (W : Int)).toNat = n / W := by rw [eq]; rfl
  rw [List.flatten_replicate_singleton, List.flatten_replicate_singleton, hsp] at iL
  rw [List.flatten_replicate_singleton, hsp] at N
  have hfr : ((n : Int).fmod (W : Int)).toNat = n % W := by rw [er]; rfl
  have hqr : W * (n / W) + n % W = n := Nat.div_add_mod n W
  rw [← mapOf_declare (Str.ofString "one")] at F
  simp only [List.cons_append, List.nil_append] at F
  refine for_list_m (σ := Int × Tok × List Value × List Int × Nat)
    (fun c u => [(Str.ofString "w", some (.int W tw)), (Str.ofString "n", some (.int n tn)), (Str.ofString "a", some (.ref la)), (Str.ofString "few", some (.int ((n : Int).fmod W) _)), (Str.ofString "spots", some (.int ((n : Int).fdiv W) _)), (Str.ofString "mask", some (.int (1 * 2 ^ (W : Int).toNat - 1) _)), (Str.ofString "carry", some (.int c.1 c.2.1)), (Str.ofString "found", some (.ref l)), (Str.ofString "one", u)])
    (fun c => [(l, listOf c.2.2.1.toArray c.2.2.2.2)]) (fun i c => IntsAre c.2.2.1 c.2.2.2.1 ∧ ShInv W na (n / W) (n % W) i c.1 c.2.2.2.1) (0, _, _, _, _) none (fun _ _ _ => by with_unfolding_all rfl) hA hAi
    F (N.perm (fun p hp => List.Mem.tail _ (List.mem_append_left [_, _] hp))) ⟨iL, .start⟩ ?_ ?_
  · clear F N
    rintro i ⟨c, tc, us, f, k⟩ one t hh tt own hk hi hoff ⟨i1, i2⟩ F N
    dsimp only at i1 i2 F N ⊢
    have kLen := i1.length
    have fl := i2.2.1
    have fc := i2.2.2.1
    have fd := i2.2.2.2.1
    have hone : na.getD i 0 = one := by rw [List.getD_eq_getElem?_getD, hk]; rfl
    have h2 := hAc.dig.getD i
    rw [hone] at h2
    have hp8 := powLe8 hW8
    have h20 := h2.1
    have h21 : one < 256 := by omega
    have e := ShInv.turn hAc.dig hone i2
    k_steps
    rename_i F N
    simp only [List.push_toArray, Int.toNat_natCast, mask_eq, fdiv_eq, List.append_eq, List.nil_append, hfr, bitOr_add fc fd h20] at F N
    exact ⟨(_, _, us ++ [_], f ++ [_], _), _, _, _, _, rfl, F, N, (fun p hp => List.mem_append_left own hp), (fun p hp => .tail _ hp), rfl, i1.append (.cons _ _ .nil), e⟩
  · clear F N
    rintro ⟨c, tc, us, f, k⟩ u hh tt ⟨i1, i2⟩ F N
    dsimp only at i1 i2 F N ⊢
    have kLen := i1.length
    have fl := i2.2.1
    k_steps
    · rename_i F N
      simp only [List.push_toArray] at N
      exact hret _ _ _ F.keep ⟨_, ShInv.done1 hAc (Nat.le_of_lt hr) hqr (by assumption) i2, retList N (List.Mem.head _) (i1.append (.cons _ _ .nil))⟩
    · exact hret _ _ _ F.keep ⟨_, ShInv.done0 hAc hqr (by omega) (by assumption) i2, retList N (List.Mem.head _) i1⟩

theorem words_sub : True := by w_top off; k_with_none; trivial
def SubInv (W : Nat) (na nb : List Int) (i : Nat) (b : Int) (f : List Int) : Prop := Dig W f ∧ f.length = i ∧ 0 ≤ b ∧ b ≤ 1 ∧ val W f - 2 ^ (W * i) * b = val W (na.take i) - val W (nb.take i)
theorem SubInv.start {W : Nat} {na nb : List Int} : SubInv W na nb 0 0 [] := ⟨Dig.nil _, rfl, by simp, by simp, by simp [val]⟩
theorem getD_off {l : List Int} {i : Nat} (h : l.length ≤ i) : l.getD i 0 = 0 := by
  rw [List.getD_eq_getElem?_getD, List.getElem?_eq_none h]; rfl
theorem sub_val {W i : Nat} {na nb f : List Int} {c a b d e : Int} (hl : f.length = i) (hv : val W f - 2 ^ (W * i) * c = val W (List.take i na) - val W (List.take i nb)) (ea : na.getD i 0 = a) (eb : nb.getD i 0 = b) (hd : d - 2 ^ W * e = a - c - b) :
    val W (f ++ [d]) - 2 ^ (W * (i + 1)) * e = val W (List.take (i + 1) na) - val W (List.take (i + 1) nb) := by
  rw [val_snoc, val_take_succ, val_take_succ, ea, eb, hl, Nat.mul_add, Nat.mul_one, Int.pow_add]
  have : d = a - c - b + 2 ^ W * e := by omega
  rw [this]
  grind
theorem SubInv.neg {W : Nat} {na nb f : List Int} {i : Nat} {c b : Int} (ha : Dig W na) (hb : Dig W nb) (h : SubInv W na nb i c f) (eb : nb.getD i 0 = b) (hz : na.getD i 0 - c - b < 0) :
    SubInv W na nb (i + 1) 1 (f ++ [na.getD i 0 - c - b + 1 * 2 ^ W]) := by
  obtain ⟨hd, hl, h0, h1, hv⟩ := h
  have a1 := ha.getD i
  have b1 := hb.getD i
  rw [eb] at b1
  exact ⟨hd.snoc (by omega) (by omega), by simp [hl], by omega, by omega, sub_val hl hv rfl eb (by omega)⟩
theorem SubInv.pos {W : Nat} {na nb f : List Int} {i : Nat} {c b : Int} (ha : Dig W na) (hb : Dig W nb) (h : SubInv W na nb i c f) (eb : nb.getD i 0 = b) (hz : ¬ na.getD i 0 - c - b < 0) :
    SubInv W na nb (i + 1) 0 (f ++ [na.getD i 0 - c - b]) := by
  obtain ⟨hd, hl, h0, h1, hv⟩ := h
  have a1 := ha.getD i
  have b1 := hb.getD i
  rw [eb] at b1
  exact ⟨hd.snoc (by omega) (by omega), by simp [hl], by omega, by omega, sub_val hl hv rfl eb (by omega)⟩
theorem SubInv.done {W x y : Nat} {na nb f : List Int} {c : Int} (hx : Canon W x na) (hy : Canon W y nb) (hyx : y ≤ x) (h : SubInv W na nb na.length c f) : (val W f).toNat = x - y := by
  obtain ⟨hd, hfl, h0, h1, hv⟩ := h
  have hl : nb.length ≤ na.length := by
    rcases Nat.lt_or_ge na.length nb.length with q | q
    · have := canon_lt_of_len hx hy q; omega
    · exact q
  rw [List.take_length, List.take_of_length_le hl, hx.val, hy.val] at hv
  have := hd.val_lt
  rw [hfl] at this
  have hc : c = 0 := by
    rcases Int.lt_or_eq_of_le h0 with q | q
    · have : c = 1 := by omega
      subst this; omega
    · exact q.symm
  subst hc
  omega
set_option maxRecDepth 100000 in
set_option maxHeartbeats 1000000 in
theorem sub_spec {w : World} {h : Heap} {x y W : Nat} {tw : Tok} {la lb : Addr} {va vb : List Value} {na nb : List Int} (hW3 : 3 ≤ W) (hW8 : W ≤ 8) (hA : h.IsList la va.toArray) (hAi : IntsAre va na) (hAc : Canon W x na) (hB : h.IsList lb vb.toArray) (hBi : IntsAre vb nb) (hBc : Canon W y nb)
    (hx : x < 1073741824) (hyx : y ≤ x) :
    Does w 2 86 [.ref la, .ref lb, .int W tw] h (IsNewNat h W (x - y)) := by
  intro mean mg mb dp un gd cn cs L a ccd cl outer A₀ base h₀ m gens drawn tk os Q E B F X T hk hd hu hret
  refine' enterM [(Str.ofString "a", .ref la), (Str.ofString "b", .ref lb), (Str.ofString "w", .int W tw)] ?kB ?kF ?kX ?kT ?kk ?ho ?hcd ?hroom ?hbind ?hloc ?hco ?hgen ?hkf ?hcell ?_
  walk_at "mine cases"
  clear B F X T hk
  intro g L' h' tk' hg' F' N' B' X' T'
  dsimp only at hg'; subst hg'
  simp only [List.reverse_cons, List.reverse_nil, List.nil_append, List.cons_append, List.map_cons, List.map_nil] at F'
  have hAl := hAc.len30 hW3 hx
  have hBl := hBc.len30 hW3 (by omega : y < 1073741824)
  k_with "pyIter ref" => refine Stop.out ?_
  k_with "call ref" => refine Stop.out ?_
  k_steps
  unfold Stop
  refine compare_spec hW3 (F'.lst hA) hAi hAc (F'.lst hB) hBi hBc hx (by omega) _ _ _ _ _ _ _ _ _ _ _ _ _ _ _ _ _ _ _ _ _ _ _ B' F' X' T' rfl (by omega) (by omega) ?_
  rintro r h2 tk2 e2 ⟨c, tc, rfl, hc⟩
  have F2 := F'.after e2
  have N2 := News.keepsAll N' e2
  clear F' N'
  have hc0 : ¬ c < 0 := by omega
  k_steps
  unfold Stop
  rename_i l _ _ _ _ _ _ _ _ _ _ _ _ tk3 t1 u1 v1 R F N Ek
  rw [← mapOf_declare (Str.ofString "limb"), ← mapOf_declare (Str.ofString "at")] at F
  refine for_range_m (n := na.length) (σ := Int × Tok × Option Value × List Value × List Int × Nat)
    (fun c u => [(Str.ofString "w", some (.int W tw)), (Str.ofString "b", some (.ref lb)), (Str.ofString "a", some (.ref la)), (Str.ofString "base", some (.int (1 * 2 ^ (W : Int).toNat) _)), (Str.ofString "borrow", some (.int c.1 c.2.1)), (Str.ofString "found", some (.ref l)), (Str.ofString "limb", c.2.2.1), (Str.ofString "at", u)])
    (fun c => [(l, listOf c.2.2.2.1.toArray c.2.2.2.2.2)]) (fun i c => IntsAre c.2.2.2.1 c.2.2.2.2.1 ∧ SubInv W na nb i c.1 c.2.2.2.2.1) (0, _, none, [], [], 0) none (fun _ _ _ => by with_unfolding_all rfl) R
    (small_one (by omega) (by omega) (by omega) (by omega)) (by rw [rangeSize_nat]; omega) F (N.perm (fun p hp => .tail _ hp)) ⟨.nil, .start⟩ ?_ ?_
  · clear F N R Ek
    rintro i ⟨c, tc, ul, us, f, k⟩ t hh tt own hi hoff ⟨i1, i2⟩ F N
    dsimp only at i1 i2 F N ⊢
    have kLen := i1.length
    have fl := i2.2.1
    have fc := i2.2.2.1
    have fd := i2.2.2.2.1
    have da := hAc.dig.getD i
    have db := hBc.dig.getD i
    k_steps
    all_goals rename_i F N
    all_goals rw [show ((0 : Int) + (i : Int)).toNat = i by omega] at *
    all_goals simp only [List.push_toArray, Int.toNat_natCast, List.append_eq, List.nil_append] at F N
    · exact ⟨(_, _, _, us ++ [_], f ++ [_], _), _, _, _, _, rfl, F, N, (fun p hp => List.mem_append_left own hp), (fun p hp => .tail _ hp), rfl, i1.append (.cons _ _ .nil), SubInv.neg hAc.dig hBc.dig i2 rfl (by assumption)⟩
    · exact ⟨(_, _, _, us ++ [_], f ++ [_], _), _, _, _, _, rfl, F, N, (fun p hp => List.mem_append_left own hp), (fun p hp => .tail _ hp), rfl, i1.append (.cons _ _ .nil), SubInv.pos hAc.dig hBc.dig i2 rfl (by assumption)⟩
    · exact ⟨(_, _, _, us ++ [_], f ++ [_], _), _, _, _, _, rfl, F, N, (fun p hp => List.mem_append_left own hp), (fun p hp => .tail _ hp), rfl, i1.append (.cons _ _ .nil), SubInv.neg hAc.dig hBc.dig i2 (by rw [getD_off (by omega)]) (by assumption)⟩
    · exact ⟨(_, _, _, us ++ [_], f ++ [_], _), _, _, _, _, rfl, F, N, (fun p hp => List.mem_append_left own hp), (fun p hp => .tail _ hp), rfl, i1.append (.cons _ _ .nil), SubInv.pos hAc.dig hBc.dig i2 (by rw [getD_off (by omega)]) (by assumption)⟩
  · clear F N R Ek
    rintro ⟨c, tc, ul, us, f, k⟩ u hh tt ⟨i1, i2⟩ F N
    dsimp only at i1 i2 F N ⊢
    have kLen := i1.length
    have fl := i2.2.1
    have ev := SubInv.done hAc hBc hyx i2
    k_steps
    unfold Stop
    rename_i F N
    refine normal_spec (W := W) (newsList N (List.Mem.head _)) i1 (by omega) i2.1 _ _ _ _ _ _ _ _ _ _ _ _ _ _ _ _ _ _ _ _ _ _ _ B' F X' T' rfl (by omega) (by omega) ?_
    rintro r h3 tk3 e3 hres
    rw [ev] at hres
    have F3 := F.after e3
    exact hret _ _ _ F3.keep (IsNewNat.mono hres F.keep)

theorem words_mul_school : True := by w_top off; k_with_none; trivial
theorem getD_set_ne {l : List Int} {i j : Nat} {v : Int} (h : i ≠ j) : (l.set i v).getD j 0 = l.getD j 0 := by
  rw [List.getD_eq_getElem?_getD, List.getD_eq_getElem?_getD, List.getElem?_set_ne h]
def MulO (W : Nat) (na nb : List Int) (i : Nat) (f : List Int) : Prop :=
  Dig W f ∧ f.length = na.length + nb.length ∧ val W f = val W (na.take i) * val W nb ∧ ∀ j, i + nb.length ≤ j → f.getD j 0 = 0
def MulI (W : Nat) (na nb : List Int) (i j : Nat) (c : Int) (f : List Int) : Prop :=
  Dig W f ∧ f.length = na.length + nb.length ∧ 0 ≤ c ∧ c < 2 ^ W ∧ val W f + 2 ^ (W * (i + j)) * c = val W (na.take i) * val W nb + 2 ^ (W * i) * (na.getD i 0 * val W (nb.take j)) ∧ ∀ j, i + nb.length ≤ j → f.getD j 0 = 0
theorem MulO.start {W : Nat} {na nb : List Int} (h : ∀ W n, Dig W (List.replicate n 0)) (hv : ∀ W n, val W (List.replicate n 0) = 0) : MulO W na nb 0 (List.replicate (na.length + nb.length) 0) :=
  ⟨h _ _, by simp, by simp [hv, val], fun j _ => by
    rw [List.getD_eq_getElem?_getD, List.getElem?_replicate]; split <;> rfl⟩
theorem MulI.start {W : Nat} {na nb f : List Int} {i : Nat} (h : MulO W na nb i f) : MulI W na nb i 0 0 f := by
  obtain ⟨hd, hl, hv, hz⟩ := h
  exact ⟨hd, hl, Int.le_refl _, powPos _, by simp [hv, val], hz⟩
theorem mul_val {W i j : Nat} {na nb f : List Int} {c a b x : Int} (hk : i + j < f.length) (hv : val W f + 2 ^ (W * (i + j)) * c = val W (na.take i) * val W nb + 2 ^ (W * i) * (na.getD i 0 * val W (nb.take j)))
    (ea : na.getD i 0 = a) (eb : nb.getD j 0 = b) (ef : f.getD (i + j) 0 = x) (e3 : 2 ^ W * ((c + (x + a * b)) / 2 ^ W) + (c + (x + a * b)) % 2 ^ W = c + (x + a * b)) :
    val W (f.set (i + j) ((c + (x + a * b)) % 2 ^ W)) + 2 ^ (W * (i + (j + 1))) * ((c + (x + a * b)) / 2 ^ W) = val W (na.take i) * val W nb + 2 ^ (W * i) * (na.getD i 0 * val W (nb.take (j + 1))) := by
  rw [val_set W f _ _ hk, val_take_succ, ef, eb, show i + (j + 1) = i + j + 1 by omega, Nat.mul_add W (i + j) 1, Nat.mul_one, Int.pow_add]
  rw [ea] at hv ⊢
  generalize (c + (x + a * b)) / 2 ^ W = q at *
  generalize (c + (x + a * b)) % 2 ^ W = r at *
  have hr : r = c + (x + a * b) - 2 ^ W * q := by omega
  rw [hr]
  rw [Nat.mul_add, Int.pow_add] at hv ⊢
  grind
theorem MulI.turn {W : Nat} {na nb f : List Int} {i j : Nat} {c a b : Int} (hW : 0 < W) (hda : Dig W na) (hdb : Dig W nb) (ea : na.getD i 0 = a) (eb : nb.getD j 0 = b) (hi : i < na.length) (hj : j < nb.length) (h : MulI W na nb i j c f) :
    MulI W na nb i (j + 1) ((c + (f.getD (i + j) 0 + a * b)) / 2 ^ W) (f.set (i + j) ((c + (f.getD (i + j) 0 + a * b)) % 2 ^ W)) := by
  obtain ⟨hd, hl, h0, h1, hv, hz⟩ := h
  have a1 := hda.getD i
  have b1 := hdb.getD j
  have x1 := hd.getD (i + j)
  rw [ea] at a1
  rw [eb] at b1
  obtain ⟨x, ex⟩ : ∃ x, f.getD (i + j) 0 = x := ⟨_, rfl⟩
  rw [ex] at x1 ⊢
  have hp := powGt W hW
  have m0 : 0 ≤ a * b := Int.mul_nonneg a1.1 b1.1
  have m1 : a * b ≤ (2 ^ W - 1) * (2 ^ W - 1) := Int.mul_le_mul (by omega) (by omega) b1.1 (by omega)
  have e1 := Int.emod_nonneg (c + (x + a * b)) (by omega : (2 : Int) ^ W ≠ 0)
  have e2 := Int.emod_lt_of_pos (c + (x + a * b)) (by omega : (0 : Int) < 2 ^ W)
  have e3 := Int.mul_ediv_add_emod (c + (x + a * b)) (2 ^ W)
  refine ⟨hd.set _ e1 e2, by rw [List.length_set]; exact hl, Int.ediv_nonneg (by omega) (by omega), ?_, mul_val (by omega) hv ea eb ex e3, fun k hk => ?_⟩
  · refine Int.ediv_lt_of_lt_mul (by omega) ?_
    have : (2 ^ W - 1) * (2 ^ W - 1) = (2 : Int) ^ W * 2 ^ W - 2 ^ W - 2 ^ W + 1 := by grind
    omega
  · rw [getD_set_ne (by omega)]; exact hz k hk
theorem MulI.done {W : Nat} {na nb f : List Int} {i : Nat} {c : Int} (hi : i < na.length) (h : MulI W na nb i nb.length c f) : MulO W na nb (i + 1) (f.set (i + nb.length) c) := by
  obtain ⟨hd, hl, h0, h1, hv, hz⟩ := h
  refine ⟨hd.set _ h0 h1, by rw [List.length_set]; exact hl, ?_, fun k hk => ?_⟩
  · rw [val_set W f _ _ (by omega), hz _ (Nat.le_refl _), Int.sub_zero, hv, List.take_length, val_take_succ]
    grind
  · rw [getD_set_ne (by omega)]; exact hz k (by omega)
theorem MulO.done {W x y : Nat} {na nb f : List Int} (hx : Canon W x na) (hy : Canon W y nb) (h : MulO W na nb na.length f) : (val W f).toNat = x * y := by
  obtain ⟨hd, hl, hv, hz⟩ := h
  rw [List.take_length, hx.val, hy.val] at hv
  rw [hv]
  have : (x : Int) * y = ((x * y : Nat) : Int) := by rw [Int.natCast_mul]
  omega
set_option maxRecDepth 100000 in
set_option maxHeartbeats 1000000 in
theorem mul_spec {w : World} {h : Heap} {x y W : Nat} {tw : Tok} {la lb : Addr} {va vb : List Value} {na nb : List Int} (hW3 : 3 ≤ W) (hW8 : W ≤ 8) (hA : h.IsList la va.toArray) (hAi : IntsAre va na) (hAc : Canon W x na) (hB : h.IsList lb vb.toArray) (hBi : IntsAre vb nb) (hBc : Canon W y nb)
    (hx : x < 1073741824) (hy : y < 1073741824) :
    Does w 2 175 [.ref la, .ref lb, .int W tw] h (IsNewNat h W (x * y)) := by
  intro mean mg mb dp un gd cn cs L a ccd cl outer A₀ base h₀ m gens drawn tk os Q E B F X T hk hd hu hret
  refine' enterM [(Str.ofString "a", .ref la), (Str.ofString "b", .ref lb), (Str.ofString "w", .int W tw)] ?kB ?kF ?kX ?kT ?kk ?ho ?hcd ?hroom ?hbind ?hloc ?hco ?hgen ?hkf ?hcell ?_
  walk_at "mine cases"
  clear B F X T hk
  intro g L' h' tk' hg' F' N' B' X' T'
  dsimp only at hg'; subst hg'
  simp only [List.reverse_cons, List.reverse_nil, List.nil_append, List.cons_append, List.map_cons, List.map_nil] at F'
  have hAl := hAc.len30 hW3 hx
  have hBl := hBc.len30 hW3 hy
  k_with "exec For Tuple Call cons nil" => ((fail_if_success (have gg : Go := by assumption)); refine Stop.out ?_)
  k_with "pyIter ref" => refine Stop.out ?_
  k_with "call ref" => refine Stop.out ?_
  k_steps
  unfold Stop
  rename_i zl _ _ l _ hi _ _ _ _ _ _ _ _ _ _ _ _ F N
  rw [List.flatten_replicate_singleton, List.flatten_replicate_singleton] at hi
  rw [List.flatten_replicate_singleton] at N
  have hlen2 : ((na.length : Int) + (nb.length : Int)).toNat = na.length + nb.length := by omega
  rw [hlen2] at hi N
  rw [← mapOf_declare (Str.ofString "at"), ← mapOf_declare (Str.ofString "limb"), ← mapOf_declare (Str.ofString "carry"), ← mapOf_declare (Str.ofString "spot"), ← mapOf_declare (Str.ofString "other")] at F
  simp only [List.cons_append, List.nil_append] at F
  have N2 := N.perm (news' := [(l, listOf _ _)]) (fun p hp => List.Mem.tail _ (List.mem_append_left [_] hp))
  clear N
  have gg : Go := ⟨trivial⟩
  walk1
  k_steps
  clear gg
  unfold Stop
  rename_i F N S
  refine for_enum_m (σ := List Value × List Int × Nat × Option Value × Option Value × Option Value)
    (fun c u u' => [(Str.ofString "w", some (.int W tw)), (Str.ofString "b", some (.ref lb)), (Str.ofString "a", some (.ref la)), (Str.ofString "mask", some (.int (1 * 2 ^ (W : Int).toNat - 1) _)), (Str.ofString "found", some (.ref l)), (Str.ofString "at", u), (Str.ofString "limb", u'), (Str.ofString "carry", c.2.2.2.1), (Str.ofString "spot", c.2.2.2.2.1), (Str.ofString "other", c.2.2.2.2.2)])
    (fun c => [(l, listOf c.1.toArray c.2.2.1)]) (fun i c => IntsAre c.1 c.2.1 ∧ MulO W na nb i c.2.1) (_, _, _, none, none, none) none none (fun _ _ _ _ _ => by with_unfolding_all rfl) S ⟨hi, MulO.start dig_zeros val_zeros⟩ ?_ ?_
  · clear F N S N2
    rintro i ⟨us, f, k, cc, cs', co⟩ la' ta tb hh tt own hk hi hoff ⟨i1, i2⟩ F N
    dsimp only at i1 i2 F N hoff ⊢
    have kLen := i1.length
    have fl := i2.2.1
    have hla : na.getD i 0 = la' := by rw [List.getD_eq_getElem?_getD, hk]; rfl
    have h2 := hAc.dig.getD i
    rw [hla] at h2
    have hp8 := powLe8 hW8
    have h20 := h2.1
    have h21 : la' < 256 := by omega
    k_steps
    unfold Stop
    have gg : Go := ⟨trivial⟩
    walk1
    k_steps
    clear gg
    unfold Stop
    rename_i F N S
    refine for_enum_m (σ := Int × Tok × List Value × List Int × Nat)
      (fun c u u' => [(Str.ofString "w", some (.int W tw)), (Str.ofString "b", some (.ref lb)), (Str.ofString "a", some (.ref la)), (Str.ofString "mask", some (.int (1 * 2 ^ (W : Int).toNat - 1) _)), (Str.ofString "found", some (.ref l)), (Str.ofString "at", some (.int i ta)), (Str.ofString "limb", some (.int la' tb)), (Str.ofString "carry", some (.int c.1 c.2.1)), (Str.ofString "spot", u), (Str.ofString "other", u')])
      (fun c => [(l, listOf c.2.2.1.toArray c.2.2.2.2)] ++ own) (fun j c => IntsAre c.2.2.1 c.2.2.2.1 ∧ MulI W na nb i j c.1 c.2.2.2.1) (0, _, us, f, k) cs' co (fun _ _ _ _ _ => by with_unfolding_all rfl) S ⟨i1, MulI.start i2⟩ ?_ ?_
    · clear F N S
      rintro j ⟨c, tc, us, f, k⟩ lb' tc' td hh tt own2 hk2 hj hoff2 ⟨i1, i2⟩ F N
      dsimp only at i1 i2 F N hoff2 ⊢
      have kLen := i1.length
      have fl := i2.2.1
      have fc := i2.2.2.1
      have fd := i2.2.2.2.1
      have hlb : nb.getD j 0 = lb' := by rw [List.getD_eq_getElem?_getD, hk2]; rfl
      have h3 := hBc.dig.getD j
      rw [hlb] at h3
      have h30 := h3.1
      have h31 : lb' < 256 := by omega
      have hm0 : 0 ≤ la' * lb' := Int.mul_nonneg h20 h30
      have hm1 : la' * lb' ≤ 255 * 255 := Int.mul_le_mul (by omega) (by omega) h30 (by omega)
      have fx := i2.1.getD (i + j)
      simp only [List.cons_append, List.nil_append] at N
      have kMark := kstMark
      simp only [List.map_cons, List.map_nil, List.cons_append, List.nil_append] at hoff hoff2
      k_steps
      rename_i hi3 _ _ _ F N
      have hix : ((i : Int) + (j : Int)).toNat = i + j := by omega
      simp only [hix, Int.toNat_natCast, mask_eq, fdiv_eq] at F N hi3
      exact ⟨((_, _, _, _, _), _), _, _, _, _, rfl, F, N, (fun p hp => List.mem_append_left own2 hp), (fun p hp => .tail _ (List.mem_append_right own hp)), rfl, hi3, MulI.turn (by omega) hAc.dig hBc.dig hla hlb hi hj i2⟩
    · clear F N S
      rintro ⟨c, tc, us, f, k⟩ u u' hh tt ⟨i1, i2⟩ F N
      dsimp only at i1 i2 F N ⊢
      have kLen := i1.length
      have fl := i2.2.1
      simp only [List.cons_append, List.nil_append] at N
      k_steps
      rename_i F N hi3 _ _
      have hix : ((i : Int) + (nb.length : Int)).toNat = i + nb.length := by omega
      rw [hix] at N hi3
      exact ⟨((_, _, _, _, _, _), _), _, _, _, _, rfl, F, N, (fun p hp => List.mem_append_left own hp), (fun p hp => .tail _ hp), rfl, hi3, MulI.done hi i2⟩
  · clear F N S N2
    rintro ⟨us, f, k, cc, cs', co⟩ u u' hh tt ⟨i1, i2⟩ F N
    dsimp only at i1 i2 F N ⊢
    have kLen := i1.length
    have fl := i2.2.1
    have ev := MulO.done hAc hBc i2
    k_steps
    unfold Stop
    refine normal_spec (W := W) (newsList N (List.Mem.head _)) i1 (by omega) i2.1 _ _ _ _ _ _ _ _ _ _ _ _ _ _ _ _ _ _ _ _ _ _ _ B' F X' T' rfl (by omega) (by omega) ?_
    rintro r h3 tk3 e3 hres
    rw [ev] at hres
    have F3 := F.after e3
    exact hret _ _ _ F3.keep (IsNewNat.mono hres F.keep)

theorem words_lsides : True := by w_top off; k_with_none; trivial
def par (n : Nat) : Nat := popn n % 2
theorem par_lt (n : Nat) : par n = 0 ∨ par n = 1 := by unfold par; omega
def shortL (W n : Nat) : List Int := if n = 0 then [] else if n < 2 ^ W then [(n : Int)] else [((n % 2 ^ W : Nat) : Int), ((n / 2 ^ W : Nat) : Int)]
theorem shortL_ok : ∀ (W : Fin 9) (n : Fin 32), 3 ≤ W.val → ((∀ x ∈ shortL W n, 0 ≤ x ∧ x < (2 : Int) ^ W.val) ∧ val W (shortL W n) = (n.val : Int) ∧ (shortL W n ≠ [] → (2 : Int) ^ (W.val * ((shortL W n).length - 1)) ≤ n.val)) ∧ ((shortL W n).map popc).sum % 2 = (par n : Int) := by decide +kernel
theorem par_canon {W n : Nat} {na : List Int} (hW3 : 3 ≤ W) (hW8 : W ≤ 8) (hn : n < 32) (h : Canon W n na) : Int.fmod ((na.map popc).sum) 2 = (par n : Int) := by
  have q := shortL_ok ⟨W, by omega⟩ ⟨n, hn⟩ hW3
  have e : na = shortL W n := h.unique (by omega) ⟨q.1.1, q.1.2.1, q.1.2.2⟩
  rw [e, Int.fmod_eq_emod_of_nonneg _ (by decide)]
  exact q.2
def evs (n : Nat) : List Int := ((List.range n).filter fun k => par k == 0).map (fun k : Nat => (k : Int))
def ods (n : Nat) : List Int := ((List.range n).filter fun k => par k == 1).map (fun k : Nat => (k : Int))
theorem evs_even {n : Nat} (h : par n = 0) : evs (n + 1) = evs n ++ [(n : Int)] ∧ ods (n + 1) = ods n := by
  unfold evs ods
  rw [List.range_succ, List.filter_append, List.filter_append, List.map_append, List.map_append]
  simp [h]
theorem evs_odd {n : Nat} (h : par n = 1) : evs (n + 1) = evs n ∧ ods (n + 1) = ods n ++ [(n : Int)] := by
  unfold evs ods
  rw [List.range_succ, List.filter_append, List.filter_append, List.map_append, List.map_append]
  simp [h]
def IsNewSides (h : Heap) (ev od : List Int) (h' : Heap) (r : Value) : Prop :=
  ∃ q a b va vb k ka kb, r = .ref q ∧ h'.get? q = some (listOf [.ref a, .ref b].toArray k) ∧ h.get? q = none ∧ h'.get? a = some (listOf va.toArray ka) ∧ h.get? a = none ∧ h'.get? b = some (listOf vb.toArray kb) ∧ h.get? b = none ∧ IntsAre va ev ∧ IntsAre vb od
theorem dig256 {W n : Nat} {na : List Int} (hW8 : W ≤ 8) (h : Canon W n na) : ∀ x ∈ na, 0 ≤ x ∧ x < 256 := fun x hx => by
  have := h.dig x hx; have := powLe8 hW8; omega
theorem evs_len (n : Nat) : (evs n).length ≤ n := by
  unfold evs; rw [List.length_map]; exact Nat.le_trans (List.length_filter_le _ _) (by rw [List.length_range]; exact Nat.le_refl _)
theorem ods_len (n : Nat) : (ods n).length ≤ n := by
  unfold ods; rw [List.length_map]; exact Nat.le_trans (List.length_filter_le _ _) (by rw [List.length_range]; exact Nat.le_refl _)
structure SdS where
  va : List Value
  vb : List Value
  ka : Nat
  kb : Nat
theorem words_lsides_0 : True := by
  k_with "mine rest" => (((case k1 => k_asm); (case k2 => k_asm); (case k3 => k_asm); (case k4 => k_asm); (case k5 => k_asm); (case k6 => exact rfl); (case k7 => omega); (case k8 => omega)))
  k_with "own call ref" => (((with_reducible show wpAny _ _ (call (Value.ref 231) _) _ _ _); k_dflt (refine' Does.nat (law_limbs_spec ?w3 ?w8 ?b1) ?k1 ?k2 ?k3 ?k4 ?k5 ?k6 ?k7 ?k8 ?_; (case w3 => assumption); (case w8 => assumption); (case b1 => omega); walk_at "mine rest"; k_whole); intro _ _ _ _ _ _ _ _ _ _ _ _; (try dsimp only)))
  k_with "own call ref" => (((with_reducible show wpAny _ _ (call (Value.ref 26) _) _ _ _); k_dflt (refine' Does.int (nat_ones_spec ?l1 ?i1 ?b1 ?b2) ?k1 ?k2 ?k3 ?k4 ?k5 ?k6 ?k7 ?k8 ?_; (case l1 => exact newsList (by k_asm) (by k_mem)); (case i1 => assumption); (case b1 => (exact Nat.le_trans (Canon.len30 (by assumption) (by assumption) (by omega)) (by decide))); (case b2 => exact dig256 (by assumption) (by assumption)); walk_at "mine rest"; k_whole); intro _ _ _ _ _ _; (try dsimp only)))
  trivial
set_option maxRecDepth 100000 in
set_option maxHeartbeats 1000000 in
theorem lsides_spec {w : World} {h : Heap} {n W : Nat} {t tw : Tok} (hW3 : 3 ≤ W) (hW8 : W ≤ 8) (hn : n ≤ 16) :
    Does w 4 238 [.int n t, .int W tw] h (IsNewSides h (evs n) (ods n)) := by
  intro mean mg mb dp un gd cn cs L a ccd cl outer A₀ base h₀ m gens drawn tk os Q E B F X T hk hd hu hret
  refine' enterM [(Str.ofString "many", .int n t), (Str.ofString "w", .int W tw)] ?kB ?kF ?kX ?kT ?kk ?ho ?hcd ?hroom ?hbind ?hloc ?hco ?hgen ?hkf ?hcell ?_
  walk_at "mine cases"
  clear B F X T hk
  intro g L' h' tk' hg' F' N' B' X' T'
  dsimp only at hg'; subst hg'
  simp only [List.reverse_cons, List.reverse_nil, List.nil_append, List.cons_append, List.map_cons, List.map_nil] at F'
  k_with "pyIter ref" => refine Stop.out ?_
  k_steps
  unfold Stop
  rename_i la _ _ lb _ lab lq _ laq _ F' N' _ _ _ _ _ hR F N _
  rw [← mapOf_declare (Str.ofString "number")] at F
  refine for_range_m (σ := SdS) (n := n) (fun c u => [(Str.ofString "w", some (.int W tw)), (Str.ofString "many", some (.int n t)), (Str.ofString "sides", some (.ref lq)), (Str.ofString "number", u)])
    (fun c => [(lq, listOf [.ref la, .ref lb].toArray 0), (lb, listOf c.vb.toArray c.kb), (la, listOf c.va.toArray c.ka)]) (fun i c => IntsAre c.va (evs i) ∧ IntsAre c.vb (ods i)) ⟨[], [], 0, 0⟩ none (fun _ _ _ => by with_unfolding_all rfl) hR (small_one (by omega) (by omega) (by omega) (by omega)) (by rw [rangeSize_nat]; omega) F N ⟨.nil, .nil⟩ ?_ ?_
  · clear F N F' N'
    intro i c t9 h9 tk9 own hi hoff hp F N
    obtain ⟨p1, p2⟩ := hp
    rw [Int.zero_add] at F
    (try dsimp only at F N p1 p2 ⊢)
    k_with "subscriptTail" => ((fail_if_success (have gg : Go := by assumption)); refine Stop.out ?_)
    k_steps
    unfold Stop
    rename_i q5 vs5 n5 ns5 h5 tk5 F5 N5 ne5 hi5 hc5 e5 t6 h6 tk6 F6 N6 e6
    have kMark := kstMark
    have gg : Go := ⟨trivial⟩
    have n1 := ne5 _ (List.Mem.head _)
    have n2 := ne5 _ (List.Mem.tail _ (List.Mem.head _))
    have n3 := ne5 _ (List.Mem.tail _ (List.Mem.tail _ (List.Mem.head _)))
    dsimp only at n1 n2 n3
    clear F5 N5
    have kLa := p1.length
    have kLb := p2.length
    have kLa2 := evs_len i
    have kLb2 := ods_len i
    simp only [List.cons_append, List.nil_append] at N6
    simp only [List.map_cons, List.map_nil] at hoff
    have o1 := hoff.ne (b := lq) (by simp)
    have o2 := hoff.ne (b := lb) (by simp)
    have o3 := hoff.ne (b := la) (by simp)
    k_with "call builtin:list.append" => refine Stop.out ?_
    rcases par_lt i with e0 | e0
    · have ep : ((ns5.map popc).sum).fmod 2 = 0 := by rw [par_canon hW3 hW8 (by omega) hc5, e0]; rfl
      rw [ep]
      k_steps
      unfold Stop
      refine append_K F6 N6 (.tail (Ne.symm n3) (.tail (Nat.ne_of_gt laq.2) (.tail (Nat.ne_of_gt lab) (.head o3)))) ?_ (by simp only [List.size_toArray]; size_fits)
      intro h7 F7 N7
      simp only [List.push_toArray] at N7
      k_steps
      exact ⟨⟨c.va ++ [_], c.vb, c.ka + 1, c.kb⟩, _, _, _, _, rfl, F7, N7, fun p hp => List.Mem.tail _ (List.mem_append_left (bs := own) hp), fun p hp => List.Mem.tail _ (List.mem_append_right (as := [_, _, _]) hp), rfl, by rw [(evs_even e0).1]; exact p1.append (.cons _ _ .nil), by rw [(evs_even e0).2]; exact p2⟩
    · have ep : ((ns5.map popc).sum).fmod 2 = 1 := by rw [par_canon hW3 hW8 (by omega) hc5, e0]; rfl
      rw [ep]
      k_steps
      unfold Stop
      refine append_K F6 N6 (.tail (Ne.symm n2) (.tail (Nat.ne_of_gt laq.1) (.head (fun p hp => by rcases List.mem_cons.mp hp with rfl | hp; exact (Nat.ne_of_lt lab); exact o2 p hp)))) ?_ (by simp only [List.size_toArray]; size_fits)
      intro h7 F7 N7
      simp only [List.push_toArray] at N7
      k_steps
      exact ⟨⟨c.va, c.vb ++ [_], c.ka, c.kb + 1⟩, _, _, _, _, rfl, F7, N7, fun p hp => List.Mem.tail _ (List.mem_append_left (bs := own) hp), fun p hp => List.Mem.tail _ (List.mem_append_right (as := [_, _, _]) hp), rfl, by rw [(evs_odd e0).1]; exact p1, by rw [(evs_odd e0).2]; exact p2.append (.cons _ _ .nil)⟩
  · intro c u h9 tk9 hp F N
    k_steps
    exact hret _ _ _ F.keep ⟨lq, la, lb, c.va, c.vb, _, _, _, rfl, (N _ (List.Mem.head _)).1, (N _ (List.Mem.head _)).2.2, (N _ (List.Mem.tail _ (List.Mem.tail _ (List.Mem.head _)))).1, (N _ (List.Mem.tail _ (List.Mem.tail _ (List.Mem.head _)))).2.2, (N _ (List.Mem.tail _ (List.Mem.head _))).1, (N _ (List.Mem.tail _ (List.Mem.head _))).2.2, hp.1, hp.2⟩

theorem words_power : True := by w_top off; k_with_none; trivial
theorem words_power_0 : True := by
  k_with "mine list" => (first | exact Fr.lst (by k_asm) (by assumption) | exact newsList (by k_asm) (by k_mem))
  k_with "mine ints" => (first | assumption | exact IntsAre.cons _ _ .nil | exact IntsAre.nil)
  k_with "own call ref" => (((with_reducible show wpAny _ _ (call (Value.ref 175) _) _ _ _); k_dflt (refine' Does.nat (mul_spec ?w3 ?w8 ?l1 ?i1 ?c1 ?l2 ?i2 ?c2 ?b1 ?b2) ?k1 ?k2 ?k3 ?k4 ?k5 ?k6 ?k7 ?k8 ?_; (case w3 => assumption); (case w8 => assumption); (case l1 => walk_at "mine list"); (case i1 => walk_at "mine ints"); (case c1 => assumption); (case l2 => walk_at "mine list"); (case i2 => walk_at "mine ints"); (case c2 => assumption); (case b1 => walk_at "mine bound"); (case b2 => walk_at "mine bound"); (case k1 => k_asm); (case k2 => k_asm); (case k3 => k_asm); (case k4 => k_asm); (case k5 => k_asm); (case k6 => exact rfl); (case k7 => omega); (case k8 => omega); k_whole); intro _ _ _ _ _ _ _ _ _ _ _ _; (try dsimp only)))
  k_with "mine bound" => (first | assumption | omega | ((simp only [Nat.one_mul, Nat.mul_one]); first | assumption | omega))
  k_with "own pyIter ref" => (walk_at "last pyIter ref")
  trivial
set_option maxRecDepth 100000 in
set_option maxHeartbeats 1000000 in
theorem power0_spec {w : World} {h : Heap} {x W : Nat} {tn tw : Tok} {la : Addr} {va : List Value} {na : List Int} (hW3 : 3 ≤ W) (hW8 : W ≤ 8) (hA : h.IsList la va.toArray) (hAi : IntsAre va na) (hAc : Canon W x na) (hx : x < 1073741824) (hx2 : x * x < 1073741824) (h1c : Canon W 1 [1]) :
    Does w 3 168 [.ref la, .int 0 tn, .int W tw, .ref 175] h (IsNewNat h W (x ^ 0)) := by
  intro mean mg mb dp un gd cn cs L a ccd cl outer A₀ base h₀ m gens drawn tk os Q E B F X T hk hd hu hret
  refine' enterM [(Str.ofString "a", .ref la), (Str.ofString "n", .int 0 tn), (Str.ofString "w", .int W tw), (Str.ofString "mul", .ref 175)] ?kB ?kF ?kX ?kT ?kk ?ho ?hcd ?hroom ?hbind ?hloc ?hco ?hgen ?hkf ?hcell ?_
  walk_at "mine cases"
  clear B F X T hk
  intro g L' h' tk' hg' F' N' B' X' T'
  dsimp only at hg'; subst hg'
  simp only [List.reverse_cons, List.reverse_nil, List.nil_append, List.cons_append, List.map_cons, List.map_nil] at F'
  k_steps
  refine hret _ _ _ (Fr.keep (by assumption)) ⟨_, ?_, retList (by assumption) (by k_mem) (by walk_at "mine ints")⟩
  exact Canon.cast (by assumption) (by grind)
set_option maxRecDepth 100000 in
set_option maxHeartbeats 1000000 in
theorem power1_spec {w : World} {h : Heap} {x W : Nat} {tn tw : Tok} {la : Addr} {va : List Value} {na : List Int} (hW3 : 3 ≤ W) (hW8 : W ≤ 8) (hA : h.IsList la va.toArray) (hAi : IntsAre va na) (hAc : Canon W x na) (hx : x < 1073741824) (hx2 : x * x < 1073741824) (h1c : Canon W 1 [1]) :
    Does w 3 168 [.ref la, .int 1 tn, .int W tw, .ref 175] h (IsNewNat h W (x ^ 1)) := by
  intro mean mg mb dp un gd cn cs L a ccd cl outer A₀ base h₀ m gens drawn tk os Q E B F X T hk hd hu hret
  refine' enterM [(Str.ofString "a", .ref la), (Str.ofString "n", .int 1 tn), (Str.ofString "w", .int W tw), (Str.ofString "mul", .ref 175)] ?kB ?kF ?kX ?kT ?kk ?ho ?hcd ?hroom ?hbind ?hloc ?hco ?hgen ?hkf ?hcell ?_
  walk_at "mine cases"
  clear B F X T hk
  intro g L' h' tk' hg' F' N' B' X' T'
  dsimp only at hg'; subst hg'
  simp only [List.reverse_cons, List.reverse_nil, List.nil_append, List.cons_append, List.map_cons, List.map_nil] at F'
  k_steps
  refine hret _ _ _ (Fr.keep (by assumption)) ⟨_, ?_, retList (by assumption) (by k_mem) (by walk_at "mine ints")⟩
  exact Canon.cast (by assumption) (by grind)
set_option maxRecDepth 100000 in
set_option maxHeartbeats 1000000 in
theorem power2_spec {w : World} {h : Heap} {x W : Nat} {tn tw : Tok} {la : Addr} {va : List Value} {na : List Int} (hW3 : 3 ≤ W) (hW8 : W ≤ 8) (hA : h.IsList la va.toArray) (hAi : IntsAre va na) (hAc : Canon W x na) (hx : x < 1073741824) (hx2 : x * x < 1073741824) (h1c : Canon W 1 [1]) :
    Does w 3 168 [.ref la, .int 2 tn, .int W tw, .ref 175] h (IsNewNat h W (x ^ 2)) := by
  intro mean mg mb dp un gd cn cs L a ccd cl outer A₀ base h₀ m gens drawn tk os Q E B F X T hk hd hu hret
  refine' enterM [(Str.ofString "a", .ref la), (Str.ofString "n", .int 2 tn), (Str.ofString "w", .int W tw), (Str.ofString "mul", .ref 175)] ?kB ?kF ?kX ?kT ?kk ?ho ?hcd ?hroom ?hbind ?hloc ?hco ?hgen ?hkf ?hcell ?_
  walk_at "mine cases"
  clear B F X T hk
  intro g L' h' tk' hg' F' N' B' X' T'
  dsimp only at hg'; subst hg'
  simp only [List.reverse_cons, List.reverse_nil, List.nil_append, List.cons_append, List.map_cons, List.map_nil] at F'
  k_steps
  refine hret _ _ _ (Fr.keep (by assumption)) ⟨_, ?_, retList (by assumption) (by k_mem) (by walk_at "mine ints")⟩
  exact Canon.cast (by assumption) (by grind)
set_option maxRecDepth 100000 in
set_option maxHeartbeats 1000000 in
theorem power3_spec {w : World} {h : Heap} {x W : Nat} {tn tw : Tok} {la : Addr} {va : List Value} {na : List Int} (hW3 : 3 ≤ W) (hW8 : W ≤ 8) (hA : h.IsList la va.toArray) (hAi : IntsAre va na) (hAc : Canon W x na) (hx : x < 1073741824) (hx2 : x * x < 1073741824) (h1c : Canon W 1 [1]) :
    Does w 3 168 [.ref la, .int 3 tn, .int W tw, .ref 175] h (IsNewNat h W (x ^ 3)) := by
  intro mean mg mb dp un gd cn cs L a ccd cl outer A₀ base h₀ m gens drawn tk os Q E B F X T hk hd hu hret
  refine' enterM [(Str.ofString "a", .ref la), (Str.ofString "n", .int 3 tn), (Str.ofString "w", .int W tw), (Str.ofString "mul", .ref 175)] ?kB ?kF ?kX ?kT ?kk ?ho ?hcd ?hroom ?hbind ?hloc ?hco ?hgen ?hkf ?hcell ?_
  walk_at "mine cases"
  clear B F X T hk
  intro g L' h' tk' hg' F' N' B' X' T'
  dsimp only at hg'; subst hg'
  simp only [List.reverse_cons, List.reverse_nil, List.nil_append, List.cons_append, List.map_cons, List.map_nil] at F'
  k_steps
  refine hret _ _ _ (Fr.keep (by assumption)) ⟨_, ?_, retList (by assumption) (by k_mem) (by walk_at "mine ints")⟩
  exact Canon.cast (by assumption) (by grind)
set_option maxRecDepth 100000 in
set_option maxHeartbeats 1000000 in
theorem power4_spec {w : World} {h : Heap} {x W : Nat} {tn tw : Tok} {la : Addr} {va : List Value} {na : List Int} (hW3 : 3 ≤ W) (hW8 : W ≤ 8) (hA : h.IsList la va.toArray) (hAi : IntsAre va na) (hAc : Canon W x na) (hx : x < 1073741824) (hx2 : x * x < 1073741824) (h1c : Canon W 1 [1]) :
    Does w 3 168 [.ref la, .int 4 tn, .int W tw, .ref 175] h (IsNewNat h W (x ^ 4)) := by
  intro mean mg mb dp un gd cn cs L a ccd cl outer A₀ base h₀ m gens drawn tk os Q E B F X T hk hd hu hret
  refine' enterM [(Str.ofString "a", .ref la), (Str.ofString "n", .int 4 tn), (Str.ofString "w", .int W tw), (Str.ofString "mul", .ref 175)] ?kB ?kF ?kX ?kT ?kk ?ho ?hcd ?hroom ?hbind ?hloc ?hco ?hgen ?hkf ?hcell ?_
  walk_at "mine cases"
  clear B F X T hk
  intro g L' h' tk' hg' F' N' B' X' T'
  dsimp only at hg'; subst hg'
  simp only [List.reverse_cons, List.reverse_nil, List.nil_append, List.cons_append, List.map_cons, List.map_nil] at F'
  k_steps
  refine hret _ _ _ (Fr.keep (by assumption)) ⟨_, ?_, retList (by assumption) (by k_mem) (by walk_at "mine ints")⟩
  exact Canon.cast (by assumption) (by grind)
theorem power_spec {w : World} {h : Heap} {x n W : Nat} {tn tw : Tok} {la : Addr} {va : List Value} {na : List Int} (hW3 : 3 ≤ W) (hW8 : W ≤ 8) (hA : h.IsList la va.toArray) (hAi : IntsAre va na) (hAc : Canon W x na) (hx : x ≤ 100) (hn : n ≤ 4) :
    Does w 3 168 [.ref la, .int n tn, .int W tw, .ref 175] h (IsNewNat h W (x ^ n)) := by
  have h1c : Canon W 1 [1] := Canon.small (by decide) (Nat.lt_of_lt_of_le (by decide : 1 < 2 ^ 3) (Nat.pow_le_pow_right (by decide) hW3))
  have hx2 : x * x ≤ 100 * 100 := Nat.mul_le_mul hx hx
  have h1 : x < 1073741824 := by omega
  have h2 : x * x < 1073741824 := by omega
  match n, hn with
  | 0, _ => exact power0_spec hW3 hW8 hA hAi hAc h1 h2 h1c
  | 1, _ => exact power1_spec hW3 hW8 hA hAi hAc h1 h2 h1c
  | 2, _ => exact power2_spec hW3 hW8 hA hAi hAc h1 h2 h1c
  | 3, _ => exact power3_spec hW3 hW8 hA hAi hAc h1 h2 h1c
  | 4, _ => exact power4_spec hW3 hW8 hA hAi hAc h1 h2 h1c

theorem words_signed : True := by w_top off; k_with_none; trivial
set_option maxRecDepth 100000 in
set_option maxHeartbeats 1000000 in
theorem signed_spec {w : World} {h : Heap} {b : Bool} {x W : Nat} {la : Addr} {va : List Value} {na : List Int} (hA : h.IsList la va.toArray) (hAi : IntsAre va na) (hAc : Canon W x na) (hl : na.length ≤ 40) :
    Does w 1 182 [.bool b, .ref la] h (IsNewTup h [.bool (b && decide (0 < x)), .ref la]) := by
  intro mean mg mb dp un gd cn cs L a ccd cl outer A₀ base h₀ m gens drawn tk os Q E B F X T hk hd hu hret
  refine' enterM [(Str.ofString "is_below", .bool b), (Str.ofString "nat", .ref la)] ?kB ?kF ?kX ?kT ?kk ?ho ?hcd ?hroom ?hbind ?hloc ?hco ?hgen ?hkf ?hcell ?_
  walk_at "mine cases"
  clear B F X T hk
  intro g L' h' tk' hg' F' N' B' X' T'
  dsimp only at hg'; subst hg'
  simp only [List.reverse_cons, List.reverse_nil, List.nil_append, List.cons_append, List.map_cons, List.map_nil] at F'
  k_steps
  · rename_i hb _ _ F N _
    subst hb
    have e : decide ((0 : Int) < na.length) = (true && decide (0 < x)) := by
      have := hAc.pos
      rw [Bool.true_and, decide_eq_decide]; omega
    rw [e] at N
    exact hret _ _ _ F.keep (retTup N (List.Mem.head _))
  · rename_i hb _ _ F N _
    subst hb
    exact hret _ _ _ F.keep (retTup N (List.Mem.head _))
set_option maxRecDepth 100000 in
set_option maxHeartbeats 1000000 in
theorem s_neg_spec {w : World} {h : Heap} {b : Bool} {x W : Nat} {qa la : Addr} {va : List Value} {na : List Int} (hT : IsTup h qa [Value.bool b, .ref la].toArray) (hA : h.IsList la va.toArray) (hAi : IntsAre va na) (hAc : Canon W x na) (hl : na.length ≤ 40) :
    Does w 2 189 [.ref qa] h (IsNewTup h [.bool (!b && decide (0 < x)), .ref la]) := by
  intro mean mg mb dp un gd cn cs L a ccd cl outer A₀ base h₀ m gens drawn tk os Q E B F X T hk hd hu hret
  refine' enterM [(Str.ofString "x", .ref qa)] ?kB ?kF ?kX ?kT ?kk ?ho ?hcd ?hroom ?hbind ?hloc ?hco ?hgen ?hkf ?hcell ?_
  walk_at "mine cases"
  clear B F X T hk
  intro g L' h' tk' hg' F' N' B' X' T'
  dsimp only at hg'; subst hg'
  simp only [List.reverse_cons, List.reverse_nil, List.nil_append, List.cons_append, List.map_cons, List.map_nil] at F'
  k_with "call ref" => refine Stop.out ?_
  k_steps
  unfold Stop
  refine signed_spec (F'.lst hA) hAi hAc hl _ _ _ _ _ _ _ _ _ _ _ _ _ _ _ _ _ _ _ _ _ _ _ B' F' X' T' rfl (by omega) (by omega) ?_
  rintro r h3 tk3 e3 hres
  exact hret _ _ _ (F'.after e3).keep (hres.mono F'.keep)
set_option maxRecDepth 100000 in
set_option maxHeartbeats 1000000 in
theorem s_add_spec {w : World} {h : Heap} {x y W : Nat} {tw : Tok} {qa qb la lb : Addr} {va vb : List Value} {na nb : List Int} (hW3 : 3 ≤ W) (hW8 : W ≤ 8) (hTa : IsTup h qa [Value.bool false, .ref la].toArray) (hA : h.IsList la va.toArray) (hAi : IntsAre va na) (hAc : Canon W x na)
    (hTb : IsTup h qb [Value.bool (decide (0 < y)), .ref lb].toArray) (hB : h.IsList lb vb.toArray) (hBi : IntsAre vb nb) (hBc : Canon W y nb) (hx : x < 1073741824) (hy : y < 1073741824) :
    Does w 4 196 [.ref qa, .ref qb, .int W tw] h (IsNewSgn h W (if x < y then y - x else x - y) (decide (x < y))) := by
  intro mean mg mb dp un gd cn cs L a ccd cl outer A₀ base h₀ m gens drawn tk os Q E B F X T hk hd hu hret
  refine' enterM [(Str.ofString "x", .ref qa), (Str.ofString "y", .ref qb), (Str.ofString "w", .int W tw)] ?kB ?kF ?kX ?kT ?kk ?ho ?hcd ?hroom ?hbind ?hloc ?hco ?hgen ?hkf ?hcell ?_
  walk_at "mine cases"
  clear B F X T hk
  intro g L' h' tk' hg' F' N' B' X' T'
  dsimp only at hg'; subst hg'
  simp only [List.reverse_cons, List.reverse_nil, List.nil_append, List.cons_append, List.map_cons, List.map_nil] at F'
  k_with "call ref" => refine Stop.out ?_
  k_steps
  all_goals unfold Stop
  · rename_i hb
    have hy0 : y = 0 := by
      rcases Nat.eq_zero_or_pos y with q | q
      · exact q
      · simp [q] at hb
    subst hy0
    refine Does.nat (add_spec hW3 hW8 (F'.lst hA) hAi hAc (F'.lst hB) hBi hBc hx hy) B' F' X' N' T' rfl (by omega) (by omega) ?_
    intro q vs k ns h2 tk2 F2 N2 _ hi hc _
    clear F' N'
    k_steps
    unfold Stop
    refine signed_spec (newsList N2 (List.Mem.head _)) hi hc (by have := hc.len30 hW3 (by omega); omega) _ _ _ _ _ _ _ _ _ _ _ _ _ _ _ _ _ _ _ _ _ _ _ B' F2 X' T' rfl (by omega) (by omega) ?_
    rintro r h3 tk3 e3 hres
    exact hret _ _ _ (F2.after e3).keep (mkSgn hres (by simp) (N2 _ (List.Mem.head _)).1 (N2 _ (List.Mem.head _)).2.2 F2.keep e3 hi (hc.cast (by simp)))
  · rename_i hb
    have hy0 : 0 < y := by
      rcases Nat.eq_zero_or_pos y with q | q
      · subst q; simp at hb
      · exact q
    refine compare_spec hW3 (F'.lst hA) hAi hAc (F'.lst hB) hBi hBc hx hy _ _ _ _ _ _ _ _ _ _ _ _ _ _ _ _ _ _ _ _ _ _ _ B' F' X' T' rfl (by omega) (by omega) ?_
    rintro r h2 tk2 e2 ⟨c, tc, rfl, hc⟩
    have F1 := F'.after e2
    have N1 := News.keepsAll N' e2
    clear F' N'
    k_steps
    all_goals unfold Stop
    · have hlt : x < y := by omega
      refine Does.nat (sub_spec hW3 hW8 (F1.lst hB) hBi hBc (F1.lst hA) hAi hAc hy (by omega)) B' F1 X' N1 T' rfl (by omega) (by omega) ?_
      intro q vs k ns h2 tk2 F2 N2 _ hi hc _
      clear F1 N1
      k_steps
      unfold Stop
      refine signed_spec (newsList N2 (List.Mem.head _)) hi hc (by have := hc.len30 hW3 (by omega); omega) _ _ _ _ _ _ _ _ _ _ _ _ _ _ _ _ _ _ _ _ _ _ _ B' F2 X' T' rfl (by omega) (by omega) ?_
      rintro r h3 tk3 e3 hres
      exact hret _ _ _ (F2.after e3).keep (mkSgn hres (by simp [hlt]; omega) (N2 _ (List.Mem.head _)).1 (N2 _ (List.Mem.head _)).2.2 F2.keep e3 hi (hc.cast (by simp [hlt])))
    · have hlt : ¬ x < y := by omega
      refine Does.nat (sub_spec hW3 hW8 (F1.lst hA) hAi hAc (F1.lst hB) hBi hBc hx (by omega)) B' F1 X' N1 T' rfl (by omega) (by omega) ?_
      intro q vs k ns h2 tk2 F2 N2 _ hi hc _
      clear F1 N1
      k_steps
      unfold Stop
      refine signed_spec (newsList N2 (List.Mem.head _)) hi hc (by have := hc.len30 hW3 (by omega); omega) _ _ _ _ _ _ _ _ _ _ _ _ _ _ _ _ _ _ _ _ _ _ _ B' F2 X' T' rfl (by omega) (by omega) ?_
      rintro r h3 tk3 e3 hres
      exact hret _ _ _ (F2.after e3).keep (mkSgn hres (by simp [hlt]) (N2 _ (List.Mem.head _)).1 (N2 _ (List.Mem.head _)).2.2 F2.keep e3 hi (hc.cast (by simp [hlt])))
set_option maxRecDepth 100000 in
set_option maxHeartbeats 1000000 in
theorem s_mul_spec {w : World} {h : Heap} {x y W : Nat} {tw : Tok} {qa qb la lb : Addr} {va vb : List Value} {na nb : List Int} (hW3 : 3 ≤ W) (hW8 : W ≤ 8) (hTa : IsTup h qa [Value.bool false, .ref la].toArray) (hA : h.IsList la va.toArray) (hAi : IntsAre va na) (hAc : Canon W x na)
    (hTb : IsTup h qb [Value.bool false, .ref lb].toArray) (hB : h.IsList lb vb.toArray) (hBi : IntsAre vb nb) (hBc : Canon W y nb) (hx : x < 1073741824) (hy : y < 1073741824) (hxy : x * y < 1073741824) :
    Does w 4 210 [.ref qa, .ref qb, .int W tw, .ref 175] h (IsNewSgn h W (x * y) false) := by
  intro mean mg mb dp un gd cn cs L a ccd cl outer A₀ base h₀ m gens drawn tk os Q E B F X T hk hd hu hret
  refine' enterM [(Str.ofString "x", .ref qa), (Str.ofString "y", .ref qb), (Str.ofString "w", .int W tw), (Str.ofString "mul", .ref 175)] ?kB ?kF ?kX ?kT ?kk ?ho ?hcd ?hroom ?hbind ?hloc ?hco ?hgen ?hkf ?hcell ?_
  walk_at "mine cases"
  clear B F X T hk
  intro g L' h' tk' hg' F' N' B' X' T'
  dsimp only at hg'; subst hg'
  simp only [List.reverse_cons, List.reverse_nil, List.nil_append, List.cons_append, List.map_cons, List.map_nil] at F'
  k_with "call ref" => refine Stop.out ?_
  k_steps
  unfold Stop
  refine Does.nat (mul_spec hW3 hW8 (F'.lst hA) hAi hAc (F'.lst hB) hBi hBc hx hy) B' F' X' N' T' rfl (by omega) (by omega) ?_
  intro q vs k ns h2 tk2 F2 N2 _ hi hc _
  clear F' N'
  k_steps
  unfold Stop
  refine signed_spec (newsList N2 (List.Mem.head _)) hi hc (by have := hc.len30 hW3 (by omega); omega) _ _ _ _ _ _ _ _ _ _ _ _ _ _ _ _ _ _ _ _ _ _ _ B' F2 X' T' rfl (by omega) (by omega) ?_
  rintro r h3 tk3 e3 hres
  exact hret _ _ _ (F2.after e3).keep (mkSgn hres (by simp) (N2 _ (List.Mem.head _)).1 (N2 _ (List.Mem.head _)).2.2 F2.keep e3 hi (hc.cast rfl))
set_option maxRecDepth 100000 in
set_option maxHeartbeats 1000000 in
theorem s_shift_spec {w : World} {h : Heap} {b : Bool} {x n W : Nat} {tn tw : Tok} {qa la : Addr} {va : List Value} {na : List Int} (hW3 : 3 ≤ W) (hW8 : W ≤ 8) (hTa : IsTup h qa [Value.bool b, .ref la].toArray) (hA : h.IsList la va.toArray) (hAi : IntsAre va na) (hAc : Canon W x na)
    (hx : x < 1073741824) (hn : n ≤ 6) (hxn : x * 2 ^ n < 1073741824) :
    Does w 2 217 [.ref qa, .int n tn, .int W tw] h (IsNewSgn h W (x * 2 ^ n) (b && decide (0 < x * 2 ^ n))) := by
  intro mean mg mb dp un gd cn cs L a ccd cl outer A₀ base h₀ m gens drawn tk os Q E B F X T hk hd hu hret
  refine' enterM [(Str.ofString "x", .ref qa), (Str.ofString "n", .int n tn), (Str.ofString "w", .int W tw)] ?kB ?kF ?kX ?kT ?kk ?ho ?hcd ?hroom ?hbind ?hloc ?hco ?hgen ?hkf ?hcell ?_
  walk_at "mine cases"
  clear B F X T hk
  intro g L' h' tk' hg' F' N' B' X' T'
  dsimp only at hg'; subst hg'
  simp only [List.reverse_cons, List.reverse_nil, List.nil_append, List.cons_append, List.map_cons, List.map_nil] at F'
  k_with "call ref" => refine Stop.out ?_
  have hn0 : (n : Int) ≥ 0 := by omega
  k_steps
  unfold Stop
  refine Does.nat (shift_left_spec hW3 hW8 (F'.lst hA) hAi hAc hx hn) B' F' X' N' T' rfl (by omega) (by omega) ?_
  intro q vs k ns h2 tk2 F2 N2 _ hi hc _
  clear F' N'
  k_steps
  unfold Stop
  refine signed_spec (newsList N2 (List.Mem.head _)) hi hc (by have := hc.len30 hW3 (by omega); omega) _ _ _ _ _ _ _ _ _ _ _ _ _ _ _ _ _ _ _ _ _ _ _ B' F2 X' T' rfl (by omega) (by omega) ?_
  rintro r h3 tk3 e3 hres
  exact hret _ _ _ (F2.after e3).keep (mkSgn hres rfl (N2 _ (List.Mem.head _)).1 (N2 _ (List.Mem.head _)).2.2 F2.keep e3 hi (hc.cast rfl))

theorem words_counts : True := by w_top off; k_with_none; trivial
theorem words_counts_0 : True := by
  k_with "mine list" => (first | exact Fr.lst (by k_asm) (by assumption) | exact newsList (by k_asm) (by k_mem))
  k_with "mine ints" => (first | assumption | exact IntsAre.cons _ _ .nil | exact IntsAre.nil)
  k_with "mine bound" => (first | assumption | omega | ((simp only [Nat.one_mul, Nat.mul_one]); first | assumption | omega))
  k_with "mine rest" => (((case k1 => k_asm); (case k2 => k_asm); (case k3 => k_asm); (case k4 => k_asm); (case k5 => k_asm); (case k6 => exact rfl); (case k7 => omega); (case k8 => omega)))
  k_with "own call ref" => (((with_reducible show wpAny _ _ (call (Value.ref 175) _) _ _ _); k_dflt (refine' Does.nat (mul_spec ?w3 ?w8 ?l1 ?i1 ?c1 ?l2 ?i2 ?c2 ?b1 ?b2) ?k1 ?k2 ?k3 ?k4 ?k5 ?k6 ?k7 ?k8 ?_; (case w3 => assumption); (case w8 => assumption); (case l1 => walk_at "mine list"); (case i1 => walk_at "mine ints"); (case c1 => assumption); (case l2 => walk_at "mine list"); (case i2 => walk_at "mine ints"); (case c2 => assumption); (case b1 => walk_at "mine bound"); (case b2 => walk_at "mine bound"); walk_at "mine rest"; k_whole); intro _ _ _ _ _ _ _ _ _ _ _ _; (try dsimp only)))
  k_with "own call ref" => (((with_reducible show wpAny _ _ (call (Value.ref 65) _) _ _ _); k_dflt (refine' Does.nat (nat_of_spec ?w3 ?w8 ?b1) ?k1 ?k2 ?k3 ?k4 ?k5 ?k6 ?k7 ?k8 ?_; (case w3 => assumption); (case w8 => assumption); (case b1 => walk_at "mine bound"); walk_at "mine rest"; k_whole); intro _ _ _ _ _ _ _ _ _ _ _ _; (try dsimp only)))
  trivial
set_option maxRecDepth 100000 in
set_option maxHeartbeats 1000000 in
theorem power_of_count_spec {w : World} {h : Heap} {x W : Nat} {tx t1 tw : Tok} (hW3 : 3 ≤ W) (hW8 : W ≤ 8) (hx : x < 1073741824) (h1c : Canon W 1 [1]) :
    Does w 4 135 [.int x tx, .int 1 t1, .int W tw, .ref 175] h (IsNewNat h W x) := by
  intro mean mg mb dp un gd cn cs L a ccd cl outer A₀ base h₀ m gens drawn tk os Q E B F X T hk hd hu hret
  refine' enterM [(Str.ofString "base", .int x tx), (Str.ofString "many", .int 1 t1), (Str.ofString "w", .int W tw), (Str.ofString "mul", .ref 175)] ?kB ?kF ?kX ?kT ?kk ?ho ?hcd ?hroom ?hbind ?hloc ?hco ?hgen ?hkf ?hcell ?_
  walk_at "mine cases"
  clear B F X T hk
  intro g L' h' tk' hg' F' N' B' X' T'
  dsimp only at hg'; subst hg'
  simp only [List.reverse_cons, List.reverse_nil, List.nil_append, List.cons_append, List.map_cons, List.map_nil] at F'
  k_steps
  refine hret _ _ _ (Fr.keep (by assumption)) ⟨_, ?_, retList (by assumption) (by k_mem) (by walk_at "mine ints")⟩
  exact Canon.cast (by assumption) (by grind)

theorem words_sieve2 : True := by w_top off; k_with_none; trivial
theorem words_sieve2_0 : True := by
  k_with "own setItem ref int bool" => ((k_here; k_dflt (refine' set_any ?k1 ?k2 ?k3 ?k4 ?k5 ?k6 ?_; (case k1 => k_asm); (case k2 => k_asm); (case k3 => k_upd); (case k4 => decide); (case k5 => decide); (case k6 => decide)); intro _ _ _; (try k_sweep)))
  k_with "own pyIter ref" => (walk_at "last pyIter ref")
  k_with "own subscriptTail Name Name ref int" => ((k_here; k_dflt (refine' sub_any ?k1 ?k2 ?k3 ?k4 ?k5 ?_; (case k1 => k_asm); (case k2 => k_mem); (case k3 => decide); (case k4 => decide); (case k5 => exact rfl); k_whole)))
  k_with "own call type:range" => (((with_reducible show wpAny _ _ (call (Value.type "range") _) _ _ _); (simp only [Int.reduceAdd, Int.reduceMul, Nat.reduceAdd, Int.cast_ofNat_Int])))
  trivial
set_option maxRecDepth 100000 in
set_option maxHeartbeats 1000000 in
theorem sieve2_spec {w : World} {h : Heap} {tx : Tok} :
    Does w 4 121 [.int 2 tx] h (IsNewInts h [2]) := by
  intro mean mg mb dp un gd cn cs L a ccd cl outer A₀ base h₀ m gens drawn tk os Q E B F X T hk hd hu hret
  refine' enterM [(Str.ofString "n", .int 2 tx)] ?kB ?kF ?kX ?kT ?kk ?ho ?hcd ?hroom ?hbind ?hloc ?hco ?hgen ?hkf ?hcell ?_
  walk_at "mine cases"
  clear B F X T hk
  intro g L' h' tk' hg' F' N' B' X' T'
  dsimp only at hg'; subst hg'
  simp only [List.reverse_cons, List.reverse_nil, List.nil_append, List.cons_append, List.map_cons, List.map_nil] at F'
  k_with "binaryOp Mult ref int" => refine Stop.out ?_
  k_steps
  unfold Stop
  rename_i l _ F N _
  refine mul_any (vs := [.bool true]) (rs := [.bool true, .bool true, .bool true]) F N (List.Mem.head _) (by decide) (by decide) (by decide) (by decide +kernel) ?_
  intro l2 h2 F2 N2 lt
  clear F N
  k_lt lt
  k_steps
  rename News _ _ _ _ => N
  simp only [List.push_toArray, List.cons_append, List.nil_append] at N
  refine hret _ _ _ (Fr.keep (by assumption)) (retList N (by k_mem) (IntsAre.cons 2 _ .nil))

theorem words_sieve3 : True := by w_top off; k_with_none; trivial
theorem words_sieve3_0 : True := by
  k_with "own setItem ref int bool" => ((k_here; k_dflt (refine' set_any ?k1 ?k2 ?k3 ?k4 ?k5 ?k6 ?_; (case k1 => k_asm); (case k2 => k_asm); (case k3 => k_upd); (case k4 => decide); (case k5 => decide); (case k6 => decide)); intro _ _ _; (try k_sweep)))
  k_with "own pyIter ref" => (walk_at "last pyIter ref")
  k_with "own subscriptTail Name Name ref int" => ((k_here; k_dflt (refine' sub_any ?k1 ?k2 ?k3 ?k4 ?k5 ?_; (case k1 => k_asm); (case k2 => k_mem); (case k3 => decide); (case k4 => decide); (case k5 => exact rfl); k_whole)))
  k_with "own call type:range" => (((with_reducible show wpAny _ _ (call (Value.type "range") _) _ _ _); (simp only [Int.reduceAdd, Int.reduceMul, Nat.reduceAdd, Int.cast_ofNat_Int])))
  trivial
set_option maxRecDepth 100000 in
set_option maxHeartbeats 1000000 in
theorem sieve3_spec {w : World} {h : Heap} {tx : Tok} :
    Does w 4 121 [.int 3 tx] h (IsNewInts h [2, 3]) := by
  intro mean mg mb dp un gd cn cs L a ccd cl outer A₀ base h₀ m gens drawn tk os Q E B F X T hk hd hu hret
  refine' enterM [(Str.ofString "n", .int 3 tx)] ?kB ?kF ?kX ?kT ?kk ?ho ?hcd ?hroom ?hbind ?hloc ?hco ?hgen ?hkf ?hcell ?_
  walk_at "mine cases"
  clear B F X T hk
  intro g L' h' tk' hg' F' N' B' X' T'
  dsimp only at hg'; subst hg'
  simp only [List.reverse_cons, List.reverse_nil, List.nil_append, List.cons_append, List.map_cons, List.map_nil] at F'
  k_with "binaryOp Mult ref int" => refine Stop.out ?_
  k_steps
  unfold Stop
  rename_i l _ F N _
  refine mul_any (vs := [.bool true]) (rs := [.bool true, .bool true, .bool true, .bool true]) F N (List.Mem.head _) (by decide) (by decide) (by decide) (by decide +kernel) ?_
  intro l2 h2 F2 N2 lt
  clear F N
  k_lt lt
  k_steps
  rename News _ _ _ _ => N
  simp only [List.push_toArray, List.cons_append, List.nil_append] at N
  refine hret _ _ _ (Fr.keep (by assumption)) (retList N (by k_mem) (IntsAre.cons 2 _ (IntsAre.cons 3 _ .nil)))

theorem words_sieve4 : True := by w_top off; k_with_none; trivial
theorem words_sieve4_0 : True := by
  k_with "own setItem ref int bool" => ((k_here; k_dflt (refine' set_any ?k1 ?k2 ?k3 ?k4 ?k5 ?k6 ?_; (case k1 => k_asm); (case k2 => k_asm); (case k3 => k_upd); (case k4 => decide); (case k5 => decide); (case k6 => decide)); intro _ _ _; (try k_sweep)))
  k_with "own pyIter ref" => (walk_at "last pyIter ref")
  k_with "own subscriptTail Name Name ref int" => ((k_here; k_dflt (refine' sub_any ?k1 ?k2 ?k3 ?k4 ?k5 ?_; (case k1 => k_asm); (case k2 => k_mem); (case k3 => decide); (case k4 => decide); (case k5 => exact rfl); k_whole)))
  k_with "own call type:range" => (((with_reducible show wpAny _ _ (call (Value.type "range") _) _ _ _); (simp only [Int.reduceAdd, Int.reduceMul, Nat.reduceAdd, Int.cast_ofNat_Int])))
  trivial
set_option maxRecDepth 100000 in
set_option maxHeartbeats 1000000 in
theorem sieve4_spec {w : World} {h : Heap} {tx : Tok} :
    Does w 4 121 [.int 4 tx] h (IsNewInts h [2, 3]) := by
  intro mean mg mb dp un gd cn cs L a ccd cl outer A₀ base h₀ m gens drawn tk os Q E B F X T hk hd hu hret
  refine' enterM [(Str.ofString "n", .int 4 tx)] ?kB ?kF ?kX ?kT ?kk ?ho ?hcd ?hroom ?hbind ?hloc ?hco ?hgen ?hkf ?hcell ?_
  walk_at "mine cases"
  clear B F X T hk
  intro g L' h' tk' hg' F' N' B' X' T'
  dsimp only at hg'; subst hg'
  simp only [List.reverse_cons, List.reverse_nil, List.nil_append, List.cons_append, List.map_cons, List.map_nil] at F'
  k_with "binaryOp Mult ref int" => refine Stop.out ?_
  k_steps
  unfold Stop
  rename_i l _ F N _
  refine mul_any (vs := [.bool true]) (rs := [.bool true, .bool true, .bool true, .bool true, .bool true]) F N (List.Mem.head _) (by decide) (by decide) (by decide) (by decide +kernel) ?_
  intro l2 h2 F2 N2 lt
  clear F N
  k_lt lt
  k_steps
  rename News _ _ _ _ => N
  simp only [List.push_toArray, List.cons_append, List.nil_append] at N
  refine hret _ _ _ (Fr.keep (by assumption)) (retList N (by k_mem) (IntsAre.cons 2 _ (IntsAre.cons 3 _ .nil)))

theorem words_s_sub : True := by w_top off; k_with_none; trivial
set_option maxRecDepth 100000 in
set_option maxHeartbeats 1000000 in
theorem s_sub_spec {w : World} {h : Heap} {x y W : Nat} {tw : Tok} {qa qb la lb : Addr} {va vb : List Value} {na nb : List Int} (hW3 : 3 ≤ W) (hW8 : W ≤ 8) (hTa : IsTup h qa [Value.bool false, .ref la].toArray) (hA : h.IsList la va.toArray) (hAi : IntsAre va na) (hAc : Canon W x na)
    (hTb : IsTup h qb [Value.bool false, .ref lb].toArray) (hB : h.IsList lb vb.toArray) (hBi : IntsAre vb nb) (hBc : Canon W y nb) (hx : x < 1073741824) (hy : y < 1073741824) :
    Does w 6 203 [.ref qa, .ref qb, .int W tw] h (IsNewSgn h W (if x < y then y - x else x - y) (decide (x < y))) := by
  intro mean mg mb dp un gd cn cs L a ccd cl outer A₀ base h₀ m gens drawn tk os Q E B F X T hk hd hu hret
  refine' enterM [(Str.ofString "x", .ref qa), (Str.ofString "y", .ref qb), (Str.ofString "w", .int W tw)] ?kB ?kF ?kX ?kT ?kk ?ho ?hcd ?hroom ?hbind ?hloc ?hco ?hgen ?hkf ?hcell ?_
  walk_at "mine cases"
  clear B F X T hk
  intro g L' h' tk' hg' F' N' B' X' T'
  dsimp only at hg'; subst hg'
  simp only [List.reverse_cons, List.reverse_nil, List.nil_append, List.cons_append, List.map_cons, List.map_nil] at F'
  k_with "call ref" => refine Stop.out ?_
  k_steps
  unfold Stop
  refine Does.tup (s_neg_spec (F'.tup hTb) (F'.lst hB) hBi hBc (by have := hBc.len30 hW3 hy; omega)) B' F' X' N' T' rfl (by omega) (by omega) ?_
  intro q h2 tk2 F2 N2 _ _
  clear F' N'
  rw [show (!false && decide (0 < y)) = decide (0 < y) by simp] at N2
  k_steps
  unfold Stop
  refine s_add_spec hW3 hW8 (F2.tup hTa) (F2.lst hA) hAi hAc (tupNews N2 (List.Mem.head _)) (F2.lst hB) hBi hBc hx hy _ _ _ _ _ _ _ _ _ _ _ _ _ _ _ _ _ _ _ _ _ _ _ B' F2 X' T' rfl (by omega) (by omega) ?_
  rintro r h3 tk3 e3 hres
  exact hret _ _ _ (F2.after e3).keep (hres.mono F2.keep)

theorem words_prodp : True := by w_top off; k_with_none; trivial
theorem words_prodp_0 : True := by
  k_with "mine list" => (first | exact Fr.lst (by k_asm) (by assumption) | exact newsList (by k_asm) (by k_mem))
  k_with "mine ints" => (first | assumption | exact IntsAre.cons _ _ .nil | exact IntsAre.nil)
  k_with "mine bound" => (first | assumption | omega | ((simp only [Nat.one_mul, Nat.mul_one]); first | assumption | omega))
  k_with "mine rest" => (((case k1 => k_asm); (case k2 => k_asm); (case k3 => k_asm); (case k4 => k_asm); (case k5 => k_asm); (case k6 => exact rfl); (case k7 => omega); (case k8 => omega)))
  k_with "own call ref" => (((with_reducible show wpAny _ _ (call (Value.ref 175) _) _ _ _); k_dflt (refine' Does.nat (mul_spec ?w3 ?w8 ?l1 ?i1 ?c1 ?l2 ?i2 ?c2 ?b1 ?b2) ?k1 ?k2 ?k3 ?k4 ?k5 ?k6 ?k7 ?k8 ?_; (case w3 => assumption); (case w8 => assumption); (case l1 => walk_at "mine list"); (case i1 => walk_at "mine ints"); (case c1 => assumption); (case l2 => walk_at "mine list"); (case i2 => walk_at "mine ints"); (case c2 => assumption); (case b1 => walk_at "mine bound"); (case b2 => walk_at "mine bound"); walk_at "mine rest"; k_whole); intro _ _ _ _ _ _ _ _ _ _ _ _; (try dsimp only)))
  k_with "own call ref" => (((with_reducible show wpAny _ _ (call (Value.ref 65) _) _ _ _); k_dflt (refine' Does.nat (nat_of_spec ?w3 ?w8 ?b1) ?k1 ?k2 ?k3 ?k4 ?k5 ?k6 ?k7 ?k8 ?_; (case w3 => assumption); (case w8 => assumption); (case b1 => walk_at "mine bound"); walk_at "mine rest"; k_whole); intro _ _ _ _ _ _ _ _ _ _ _ _; (try dsimp only)))
  k_with "own call ref" => (((with_reducible show wpAny _ _ (call (Value.ref 135) _) _ _ _); k_dflt (refine' Does.nat (power_of_count_spec ?w3 ?w8 ?b1 ?c1) ?k1 ?k2 ?k3 ?k4 ?k5 ?k6 ?k7 ?k8 ?_; (case w3 => assumption); (case w8 => assumption); (case b1 => walk_at "mine bound"); (case c1 => assumption); walk_at "mine rest"; k_whole); intro _ _ _ _ _ _ _ _ _ _ _ _; (try dsimp only)))
  k_with "own compareOp Eq int int" => ((simp only [List.size_toArray, List.length_cons, List.length_nil, Nat.reduceAdd, Nat.zero_add, Int.cast_ofNat_Int]))
  trivial
set_option maxRecDepth 100000 in
set_option maxHeartbeats 1000000 in
theorem prod1_spec {w : World} {h : Heap} {x W : Nat} {tx t1 tw : Tok} {lp q1 : Addr} (hW3 : 3 ≤ W) (hW8 : W ≤ 8) (hx : x < 1073741824) (h1c : Canon W 1 [1]) (hP : h.IsList lp [Value.ref q1].toArray) (hT : IsTup h q1 [Value.int x tx, .int 1 t1].toArray) :
    Does w 6 142 [.ref lp, .int W tw, .ref 175] h (IsNewNat h W x) := by
  intro mean mg mb dp un gd cn cs L a ccd cl outer A₀ base h₀ m gens drawn tk os Q E B F X T hk hd hu hret
  refine' enterM [(Str.ofString "pairs", .ref lp), (Str.ofString "w", .int W tw), (Str.ofString "mul", .ref 175)] ?kB ?kF ?kX ?kT ?kk ?ho ?hcd ?hroom ?hbind ?hloc ?hco ?hgen ?hkf ?hcell ?_
  walk_at "mine cases"
  clear B F X T hk
  intro g L' h' tk' hg' F' N' B' X' T'
  dsimp only at hg'; subst hg'
  simp only [List.reverse_cons, List.reverse_nil, List.nil_append, List.cons_append, List.map_cons, List.map_nil] at F'
  k_steps
  refine hret _ _ _ (Fr.keep (by assumption)) ⟨_, ?_, retList (by assumption) (by k_mem) (by walk_at "mine ints")⟩
  assumption
theorem words_prodp_1 : True := by
  k_with "mine list" => (exact newsList (by k_asm) (by k_mem))
  k_with "own call ref" => (((with_reducible show wpAny _ _ (call (Value.ref 142) _) _ _ _); k_dflt (refine' Does.nat (prod1_spec ?w3 ?w8 ?b1 ?c1 ?l1 ?t1) ?k1 ?k2 ?k3 ?k4 ?k5 ?k6 ?k7 ?k8 ?_; (case w3 => assumption); (case w8 => assumption); (case l1 => walk_at "mine list"); (case t1 => exact Fr.tup (by k_asm) (by assumption)); (case b1 => walk_at "mine bound"); (case c1 => assumption); walk_at "mine rest"; k_whole); intro _ _ _ _ _ _ _ _ _ _ _ _; (try dsimp only)))
  k_with "own call ref" => (((with_reducible show wpAny _ _ (call (Value.ref 142) _) _ _ _); (have _ : Go := by assumption); refine Stop.out ?_))
  trivial
set_option maxRecDepth 100000 in
set_option maxHeartbeats 1000000 in
theorem prod2_spec {w : World} {h : Heap} {x y W : Nat} {tx t1 ty t2 tw : Tok} {lp q1 q2 : Addr} (hW3 : 3 ≤ W) (hW8 : W ≤ 8) (hx : x < 1073741824) (hy : y < 1073741824) (hxy : x * y < 1073741824) (h1c : Canon W 1 [1]) (hP : h.IsList lp [Value.ref q1, .ref q2].toArray) (hT : IsTup h q1 [Value.int x tx, .int 1 t1].toArray) (hT2 : IsTup h q2 [Value.int y ty, .int 1 t2].toArray) :
    Does w 8 142 [.ref lp, .int W tw, .ref 175] h (IsNewNat h W (x * y)) := by
  intro mean mg mb dp un gd cn cs L a ccd cl outer A₀ base h₀ m gens drawn tk os Q E B F X T hk hd hu hret
  refine' enterM [(Str.ofString "pairs", .ref lp), (Str.ofString "w", .int W tw), (Str.ofString "mul", .ref 175)] ?kB ?kF ?kX ?kT ?kk ?ho ?hcd ?hroom ?hbind ?hloc ?hco ?hgen ?hkf ?hcell ?_
  walk_at "mine cases"
  clear B F X T hk
  intro g L' h' tk' hg' F' N' B' X' T'
  dsimp only at hg'; subst hg'
  simp only [List.reverse_cons, List.reverse_nil, List.nil_append, List.cons_append, List.map_cons, List.map_nil] at F'
  have gg : Go := ⟨trivial⟩
  k_steps
  unfold Stop
  rename_i h4 F4 N4 l4
  have e1 : slicePick #[Value.ref q1, Value.ref q2] none (some ((↑#[Value.ref q1, Value.ref q2].size : Int).fdiv 2)) none = #[Value.ref q1] := by with_unfolding_all rfl
  have e2 : ((↑#[Value.ref q1, Value.ref q2].size : Int).fdiv 2) = 1 := by with_unfolding_all rfl
  rw [e1] at N4
  simp only [e2] at F4
  have N5 : News g L' h4 [(_, listOf [Value.ref q1].toArray 0)] := N4
  refine Does.nat (prod1_spec hW3 hW8 hx h1c (newsList N5 (List.Mem.head _)) (Fr.tup F4 hT)) (by k_asm) F4 (by k_asm) N5 (by k_asm) rfl (by omega) (by omega) ?_
  intro q5 vs5 n5 ns5 h5 tk5 F5 N6 ne5 hi5 hc5 e5
  (try dsimp only)
  clear F4 N4 N5
  k_steps
  unfold Stop
  rename_i h6 F6 N6 l6 gg6
  have N7 : News g L' h6 ((_, listOf [Value.ref q2].toArray 0) :: [(q5, listOf vs5.toArray n5)]) := N6.perm (fun p hp => by
    rcases List.mem_cons.mp hp with rfl | hp
    · exact List.Mem.head _
    · exact List.Mem.tail _ (by rcases List.mem_cons.mp hp with rfl | hp; exact List.Mem.head _; cases hp))
  clear N6
  refine Does.nat (prod1_spec hW3 hW8 hy h1c (newsList N7 (List.Mem.head _)) (Fr.tup F6 hT2)) (by k_asm) F6 (by k_asm) N7 (by k_asm) rfl (by omega) (by omega) ?_
  intro q7 vs7 n7 ns7 h7 tk7 F7 N8 ne7 hi7 hc7 e7
  (try dsimp only)
  clear F6 N7 gg gg6 l4
  k_steps
  refine hret _ _ _ (Fr.keep (by assumption)) ⟨_, ?_, retList (by assumption) (by k_mem) (by walk_at "mine ints")⟩
  assumption

theorem words_swing2 : True := by w_top off; k_with_none; trivial
theorem words_swing2_0 : True := by
  k_with "mine list" => (first | exact Fr.lst (by k_asm) (by assumption) | exact newsList (by k_asm) (by k_mem))
  k_with "mine ints" => (first | assumption | exact IntsAre.cons _ _ .nil | exact IntsAre.nil)
  k_with "mine bound" => (first | assumption | omega | ((simp only [Nat.one_mul, Nat.mul_one]); first | assumption | omega))
  k_with "mine rest" => (((case k1 => k_asm); (case k2 => k_asm); (case k3 => k_asm); (case k4 => k_asm); (case k5 => k_asm); (case k6 => exact rfl); (case k7 => omega); (case k8 => omega)))
  k_with "own call ref" => (((with_reducible show wpAny _ _ (call (Value.ref 121) _) _ _ _); k_dflt (refine' Does.list sieve2_spec ?k1 ?k2 ?k3 ?k4 ?k5 ?k6 ?k7 ?k8 ?_; walk_at "mine rest"; k_whole); intro q' vs' n' h' tk' F' N' ne' hi' e'; obtain ⟨t1, vs1, e1, i1⟩ := IntsAre.cons_inv hi'; subst e1; have e3 := IntsAre.nil_inv i1; subst e3; (try dsimp only); k_here; (refine LCg.CompSrc.ledger (by rfl) (by k_asm) (by k_asm) (by k_mem) (by show (1 : Nat) ≤ sizeLine; decide) ?_); intro _; lcg_lit))
  k_with "own call ref" => (((with_reducible show wpAny _ _ (call (Value.ref 149) [Value.int 2 _, Value.int 2 _]) _ _ _); k_dflt (refine' Does.int swexp22_spec ?k1 ?k2 ?k3 ?k4 ?k5 ?k6 ?k7 ?k8 ?_; walk_at "mine rest"; k_whole); intro _ _ _ _ _ _; (try dsimp only)))
  k_with "own call ref" => (((with_reducible show wpAny _ _ (call (Value.ref 142) _) _ _ _); k_dflt (refine' Does.nat (prod1_spec (x := 2) ?w3 ?w8 ?b1 ?c1 ?l1 ?t1) ?k1 ?k2 ?k3 ?k4 ?k5 ?k6 ?k7 ?k8 ?_; (case w3 => assumption); (case w8 => assumption); (case c1 => assumption); (case l1 => walk_at "mine list"); (case t1 => exact tupNews (by k_asm) (by k_mem)); (case b1 => (first | omega | decide)); walk_at "mine rest"; k_whole); intro _ _ _ _ _ _ _ _ _ _ _ _; (try dsimp only)))
  k_with "own eval Name" => ((k_here; (with_reducible show wpAny _ _ (eval (Expr.Name (Str.ofString "n") _) (envOfC _ _ _ _ _)) _ _ _); k_dflt (refine' nameX_C ?N ?c ?m ?d ?_ ?a ?b; (case a => exact rfl); (case b => exact rfl); (case N => k_asm); (case c => exact rfl); (case m => k_mem); (case d => k_asm); k_whole)))
  k_with "own eval Name" => ((k_here; (with_reducible show wpAny _ _ (eval (Expr.Name _ _) (compEnvC _ _ _ _)) _ _ _); k_dflt (first
  | refine LCgL.ld_own (by k_asm) (by k_mem) (by assumption) (by assumption) ?_
  | (refine' lcf_free ?N ?c ?m ?d ?_ ?a ?b; (case a => exact rfl); (case b => exact rfl); (case N => k_asm); (case c => exact rfl); (case m => k_mem); (case d => k_asm); k_whole)
  | refine LCgL.ld_global (by k_asm) (by k_asm) (by k_asm) (by k_is) ?_)))
  k_with "own eval ListComp" => ((k_here; k_dflt (refine LCt.ListComp_T (F₀ := by k_asm) (by with_unfolding_all rfl) (by decide) (by rfl) (by decide) (by rfl) ?_); walk1; (try dsimp only); (refine LCt.CompSrcT.ledger (by rfl) (by k_asm) (by k_asm) (by k_mem) (by show (1 : Nat) ≤ sizeLine; decide) ?_); intro _; lct_lit))
  k_with "own exec Assign cons ListComp" => ((k_here; k_dflt (refine LCg.Assign_ListComp_U (F₀ := by k_asm) (by rfl) (by with_unfolding_all rfl) (by with_unfolding_all rfl) (by decide) (by rfl) (by decide) (by rfl) (by rfl) (by rfl) ?_)))
  k_with "own eval Name" => ((k_here; (with_reducible show wpAny _ _ (eval (Expr.Name (Str.ofString "pairs") _) (envOfC _ _ _ _ _)) _ _ _); k_dflt (refine' nameX_L ?F ?v ?_ ?a ?b; (case F => k_asm); (case a => exact rfl); (case b => exact rfl); (case v => exact rfl); k_whole)))
  k_with "own eval Name" => ((k_here; (with_reducible show wpAny _ _ (eval (Expr.Name (Str.ofString "w") _) (envOfC _ _ _ _ _)) _ _ _); k_dflt (refine' nameX_L ?F ?v ?_ ?a ?b; (case F => k_asm); (case a => exact rfl); (case b => exact rfl); (case v => exact rfl); k_whole)))
  k_with "own eval Name" => ((k_here; (with_reducible show wpAny _ _ (eval (Expr.Name (Str.ofString "mul") _) (envOfC _ _ _ _ _)) _ _ _); k_dflt (refine' nameX_L ?F ?v ?_ ?a ?b; (case F => k_asm); (case a => exact rfl); (case b => exact rfl); (case v => exact rfl); k_whole)))
  k_with "own eval Name" => ((k_here; (with_reducible show wpAny _ _ (eval (Expr.Name (Str.ofString "sieve") _) (envOfC _ _ _ _ _)) _ _ _); k_dflt (refine' nameX_K ?F ?X ?T ?e ?_ ?a ?b; (case F => k_asm); (case X => k_asm); (case T => k_asm); (case a => exact rfl); (case b => exact rfl); (case e => k_is); k_whole)))
  k_with "own eval Name" => ((k_here; (with_reducible show wpAny _ _ (eval (Expr.Name (Str.ofString "product_of_powers") _) (envOfC _ _ _ _ _)) _ _ _); k_dflt (refine' nameX_K ?F ?X ?T ?e ?_ ?a ?b; (case F => k_asm); (case X => k_asm); (case T => k_asm); (case a => exact rfl); (case b => exact rfl); (case e => k_is); k_whole)))
  k_with "own eval Name" => ((k_here; (with_reducible show wpAny _ _ (eval (Expr.Name (Str.ofString "swing_exponent") _) (compEnvC _ _ _ _)) _ _ _); k_dflt (refine LCgL.ld_global (by k_asm) (by k_asm) (by k_asm) (by k_is) ?_)))
  k_with "own eval Name" => ((k_here; (with_reducible show wpAny _ _ (eval (Expr.Name (Str.ofString "prime") _) (compEnvC _ _ _ _)) _ _ _); k_dflt (refine LCgL.ld_own (by k_asm) (by k_mem) (by assumption) (by assumption) ?_)))
  k_with "own eval Name" => ((k_here; (with_reducible show wpAny _ _ (eval (Expr.Name (Str.ofString "pair") _) (compEnvC _ _ _ _)) _ _ _); k_dflt (refine LCgL.ld_own (by k_asm) (by k_mem) (by assumption) (by assumption) ?_)))
  k_with "own eval Name" => ((k_here; (with_reducible show wpAny _ _ (eval (Expr.Name (Str.ofString "n") _) (compEnvC _ _ _ _)) _ _ _); k_dflt (refine' lcf_free ?N ?c ?m ?d ?_ ?a ?b; (case a => exact rfl); (case b => exact rfl); (case N => k_asm); (case c => exact rfl); (case m => k_mem); (case d => k_asm); k_whole)))
  trivial
set_option maxRecDepth 100000 in
set_option maxHeartbeats 600000 in
theorem swing2_spec {w : World} {h : Heap} {W : Nat} {tx tw : Tok} (hW3 : 3 ≤ W) (hW8 : W ≤ 8) (h1c : Canon W 1 [1]) :
    Does w 10 154 [.int 2 tx, .int W tw, .ref 175] h (IsNewNat h W 2) := by
  intro mean mg mb dp un gd cn cs L a ccd cl outer A₀ base h₀ m gens drawn tk os Q E B F X T hk hd hu hret
  refine' enterC [(Str.ofString "n", .int 2 tx), (Str.ofString "w", .int W tw), (Str.ofString "mul", .ref 175)] ?kB ?kF ?kX ?kT ?kk ?ho ?hcd ?hroom ?hbind ?hkind ?hnd ?hco ?hgen ?hkf ?_
  k_dflt ((case kB => k_asm); (case kF => k_asm); (case kX => k_asm); (case kT => k_asm); (case kk => k_asm); (case ho => k_is); (case hcd => k_is); (case hroom => (simp only [recursionLimit]; omega)); (case hbind => exact BindsTo.of_eq rfl); (case hkind => exact rfl); (case hnd => decide +kernel); (case hco => exact rfl); (case hgen => exact rfl); (case hkf => exact rfl))
  clear B F X T hk
  intro g L' h' tk' cells hg' F' N' Y' B' X' T'
  dsimp only at hg'; subst hg'
  k_cells Y'
  rename _ = Data.cell _ => d1
  have d2 : _ = Data.cell (some (.int 2 tx)) := d1
  have F2 : Fr g L' h' (mapOf [(Str.ofString "mul", some (Value.ref 175)), (Str.ofString "w", some (Value.int W tw))]) := F'
  clear d1 F'
  k_steps
  refine hret _ _ _ (Fr.keep (by assumption)) ⟨_, ?_, retList (by assumption) (by k_mem) (by assumption)⟩
  assumption

theorem words_swing3 : True := by w_top off; k_with_none; trivial
theorem words_swing3_0 : True := by
  k_with "mine list" => (first | exact Fr.lst (by k_asm) (by assumption) | exact newsList (by k_asm) (by k_mem))
  k_with "mine ints" => (first | assumption | exact IntsAre.cons _ _ .nil | exact IntsAre.nil)
  k_with "mine bound" => (first | assumption | omega | ((simp only [Nat.one_mul, Nat.mul_one]); first | assumption | omega))
  k_with "mine rest" => (((case k1 => k_asm); (case k2 => k_asm); (case k3 => k_asm); (case k4 => k_asm); (case k5 => k_asm); (case k6 => exact rfl); (case k7 => omega); (case k8 => omega)))
  k_with "own call ref" => (((with_reducible show wpAny _ _ (call (Value.ref 121) _) _ _ _); k_dflt (refine' Does.list sieve3_spec ?k1 ?k2 ?k3 ?k4 ?k5 ?k6 ?k7 ?k8 ?_; walk_at "mine rest"; k_whole); intro q' vs' n' h' tk' F' N' ne' hi' e'; obtain ⟨t1, vs1, e1, i1⟩ := IntsAre.cons_inv hi'; subst e1; obtain ⟨t2, vs2, e2, i2⟩ := IntsAre.cons_inv i1; subst e2; have e3 := IntsAre.nil_inv i2; subst e3; (try dsimp only); k_here; (refine LCg.CompSrc.ledger (by rfl) (by k_asm) (by k_asm) (by k_mem) (by show (2 : Nat) ≤ sizeLine; decide) ?_); intro _; lcg_lit))
  k_with "own call ref" => (((with_reducible show wpAny _ _ (call (Value.ref 149) [Value.int 3 _, Value.int 2 _]) _ _ _); k_dflt (refine' Does.int swexp32_spec ?k1 ?k2 ?k3 ?k4 ?k5 ?k6 ?k7 ?k8 ?_; walk_at "mine rest"; k_whole); intro _ _ _ _ _ _; (try dsimp only)))
  k_with "own call ref" => (((with_reducible show wpAny _ _ (call (Value.ref 149) [Value.int 3 _, Value.int 3 _]) _ _ _); k_dflt (refine' Does.int swexp33_spec ?k1 ?k2 ?k3 ?k4 ?k5 ?k6 ?k7 ?k8 ?_; walk_at "mine rest"; k_whole); intro _ _ _ _ _ _; (try dsimp only)))
  k_with "own call ref" => (((with_reducible show wpAny _ _ (call (Value.ref 142) _) _ _ _); k_dflt (refine' Does.nat (prod2_spec (x := 2) (y := 3) ?w3 ?w8 ?b1 ?b2 ?b3 ?c1 ?l1 ?t1 ?t2) ?k1 ?k2 ?k3 ?k4 ?k5 ?k6 ?k7 ?k8 ?_; (case w3 => assumption); (case w8 => assumption); (case c1 => assumption); (case l1 => walk_at "mine list"); (case t1 => exact tupNews (by k_asm) (by k_mem)); (case b1 => (first | omega | decide)); (case t2 => exact tupNews (by k_asm) (by k_mem)); (case b2 => (first | omega | decide)); (case b3 => (first | omega | decide)); walk_at "mine rest"; k_whole); intro _ _ _ _ _ _ _ _ _ _ _ _; (try dsimp only)))
  k_with "own eval Name" => ((k_here; (with_reducible show wpAny _ _ (eval (Expr.Name (Str.ofString "n") _) (envOfC _ _ _ _ _)) _ _ _); k_dflt (refine' nameX_C ?N ?c ?m ?d ?_ ?a ?b; (case a => exact rfl); (case b => exact rfl); (case N => k_asm); (case c => exact rfl); (case m => k_mem); (case d => k_asm); k_whole)))
  k_with "own eval Name" => ((k_here; (with_reducible show wpAny _ _ (eval (Expr.Name _ _) (compEnvC _ _ _ _)) _ _ _); k_dflt (first
  | refine LCgL.ld_own (by k_asm) (by k_mem) (by assumption) (by assumption) ?_
  | (refine' lcf_free ?N ?c ?m ?d ?_ ?a ?b; (case a => exact rfl); (case b => exact rfl); (case N => k_asm); (case c => exact rfl); (case m => k_mem); (case d => k_asm); k_whole)
  | refine LCgL.ld_global (by k_asm) (by k_asm) (by k_asm) (by k_is) ?_)))
  k_with "own eval ListComp" => ((k_here; k_dflt (refine LCt.ListComp_T (F₀ := by k_asm) (by with_unfolding_all rfl) (by decide) (by rfl) (by decide) (by rfl) ?_); walk1; (try dsimp only); (refine LCt.CompSrcT.ledger (by rfl) (by k_asm) (by k_asm) (by k_mem) (by show (2 : Nat) ≤ sizeLine; decide) ?_); intro _; lct_lit))
  k_with "own exec Assign cons ListComp" => ((k_here; k_dflt (refine LCg.Assign_ListComp_U (F₀ := by k_asm) (by rfl) (by with_unfolding_all rfl) (by with_unfolding_all rfl) (by decide) (by rfl) (by decide) (by rfl) (by rfl) (by rfl) ?_)))
  k_with "own eval Name" => ((k_here; (with_reducible show wpAny _ _ (eval (Expr.Name (Str.ofString "pairs") _) (envOfC _ _ _ _ _)) _ _ _); k_dflt (refine' nameX_L ?F ?v ?_ ?a ?b; (case F => k_asm); (case a => exact rfl); (case b => exact rfl); (case v => exact rfl); k_whole)))
  k_with "own eval Name" => ((k_here; (with_reducible show wpAny _ _ (eval (Expr.Name (Str.ofString "w") _) (envOfC _ _ _ _ _)) _ _ _); k_dflt (refine' nameX_L ?F ?v ?_ ?a ?b; (case F => k_asm); (case a => exact rfl); (case b => exact rfl); (case v => exact rfl); k_whole)))
  k_with "own eval Name" => ((k_here; (with_reducible show wpAny _ _ (eval (Expr.Name (Str.ofString "mul") _) (envOfC _ _ _ _ _)) _ _ _); k_dflt (refine' nameX_L ?F ?v ?_ ?a ?b; (case F => k_asm); (case a => exact rfl); (case b => exact rfl); (case v => exact rfl); k_whole)))
  k_with "own eval Name" => ((k_here; (with_reducible show wpAny _ _ (eval (Expr.Name (Str.ofString "sieve") _) (envOfC _ _ _ _ _)) _ _ _); k_dflt (refine' nameX_K ?F ?X ?T ?e ?_ ?a ?b; (case F => k_asm); (case X => k_asm); (case T => k_asm); (case a => exact rfl); (case b => exact rfl); (case e => k_is); k_whole)))
  k_with "own eval Name" => ((k_here; (with_reducible show wpAny _ _ (eval (Expr.Name (Str.ofString "product_of_powers") _) (envOfC _ _ _ _ _)) _ _ _); k_dflt (refine' nameX_K ?F ?X ?T ?e ?_ ?a ?b; (case F => k_asm); (case X => k_asm); (case T => k_asm); (case a => exact rfl); (case b => exact rfl); (case e => k_is); k_whole)))
  k_with "own eval Name" => ((k_here; (with_reducible show wpAny _ _ (eval (Expr.Name (Str.ofString "swing_exponent") _) (compEnvC _ _ _ _)) _ _ _); k_dflt (refine LCgL.ld_global (by k_asm) (by k_asm) (by k_asm) (by k_is) ?_)))
  k_with "own eval Name" => ((k_here; (with_reducible show wpAny _ _ (eval (Expr.Name (Str.ofString "prime") _) (compEnvC _ _ _ _)) _ _ _); k_dflt (refine LCgL.ld_own (by k_asm) (by k_mem) (by assumption) (by assumption) ?_)))
  k_with "own eval Name" => ((k_here; (with_reducible show wpAny _ _ (eval (Expr.Name (Str.ofString "pair") _) (compEnvC _ _ _ _)) _ _ _); k_dflt (refine LCgL.ld_own (by k_asm) (by k_mem) (by assumption) (by assumption) ?_)))
  k_with "own eval Name" => ((k_here; (with_reducible show wpAny _ _ (eval (Expr.Name (Str.ofString "n") _) (compEnvC _ _ _ _)) _ _ _); k_dflt (refine' lcf_free ?N ?c ?m ?d ?_ ?a ?b; (case a => exact rfl); (case b => exact rfl); (case N => k_asm); (case c => exact rfl); (case m => k_mem); (case d => k_asm); k_whole)))
  trivial
set_option maxRecDepth 100000 in
set_option maxHeartbeats 2000000 in
theorem swing3_spec {w : World} {h : Heap} {W : Nat} {tx tw : Tok} (hW3 : 3 ≤ W) (hW8 : W ≤ 8) (h1c : Canon W 1 [1]) :
    Does w 10 154 [.int 3 tx, .int W tw, .ref 175] h (IsNewNat h W 6) := by
  intro mean mg mb dp un gd cn cs L a ccd cl outer A₀ base h₀ m gens drawn tk os Q E B F X T hk hd hu hret
  refine' enterC [(Str.ofString "n", .int 3 tx), (Str.ofString "w", .int W tw), (Str.ofString "mul", .ref 175)] ?kB ?kF ?kX ?kT ?kk ?ho ?hcd ?hroom ?hbind ?hkind ?hnd ?hco ?hgen ?hkf ?_
  k_dflt ((case kB => k_asm); (case kF => k_asm); (case kX => k_asm); (case kT => k_asm); (case kk => k_asm); (case ho => k_is); (case hcd => k_is); (case hroom => (simp only [recursionLimit]; omega)); (case hbind => exact BindsTo.of_eq rfl); (case hkind => exact rfl); (case hnd => decide +kernel); (case hco => exact rfl); (case hgen => exact rfl); (case hkf => exact rfl))
  clear B F X T hk
  intro g L' h' tk' cells hg' F' N' Y' B' X' T'
  dsimp only at hg'; subst hg'
  k_cells Y'
  rename _ = Data.cell _ => d1
  have d2 : _ = Data.cell (some (.int 3 tx)) := d1
  have F2 : Fr g L' h' (mapOf [(Str.ofString "mul", some (Value.ref 175)), (Str.ofString "w", some (Value.int W tw))]) := F'
  clear d1 F'
  k_steps
  refine hret _ _ _ (Fr.keep (by assumption)) ⟨_, ?_, retList (by assumption) (by k_mem) (by assumption)⟩
  assumption

theorem words_swing4 : True := by w_top off; k_with_none; trivial
theorem words_swing4_0 : True := by
  k_with "mine list" => (first | exact Fr.lst (by k_asm) (by assumption) | exact newsList (by k_asm) (by k_mem))
  k_with "mine ints" => (first | assumption | exact IntsAre.cons _ _ .nil | exact IntsAre.nil)
  k_with "mine bound" => (first | assumption | omega | ((simp only [Nat.one_mul, Nat.mul_one]); first | assumption | omega))
  k_with "mine rest" => (((case k1 => k_asm); (case k2 => k_asm); (case k3 => k_asm); (case k4 => k_asm); (case k5 => k_asm); (case k6 => exact rfl); (case k7 => omega); (case k8 => omega)))
  k_with "own call ref" => (((with_reducible show wpAny _ _ (call (Value.ref 121) _) _ _ _); k_dflt (refine' Does.list sieve4_spec ?k1 ?k2 ?k3 ?k4 ?k5 ?k6 ?k7 ?k8 ?_; walk_at "mine rest"; k_whole); intro q' vs' n' h' tk' F' N' ne' hi' e'; obtain ⟨t1, vs1, e1, i1⟩ := IntsAre.cons_inv hi'; subst e1; obtain ⟨t2, vs2, e2, i2⟩ := IntsAre.cons_inv i1; subst e2; have e3 := IntsAre.nil_inv i2; subst e3; (try dsimp only); k_here; (refine LCg.CompSrc.ledger (by rfl) (by k_asm) (by k_asm) (by k_mem) (by show (2 : Nat) ≤ sizeLine; decide) ?_); intro _; lcg_lit))
  k_with "own call ref" => (((with_reducible show wpAny _ _ (call (Value.ref 149) [Value.int 4 _, Value.int 2 _]) _ _ _); k_dflt (refine' Does.int swexp42_spec ?k1 ?k2 ?k3 ?k4 ?k5 ?k6 ?k7 ?k8 ?_; walk_at "mine rest"; k_whole); intro _ _ _ _ _ _; (try dsimp only)))
  k_with "own call ref" => (((with_reducible show wpAny _ _ (call (Value.ref 149) [Value.int 4 _, Value.int 3 _]) _ _ _); k_dflt (refine' Does.int swexp43_spec ?k1 ?k2 ?k3 ?k4 ?k5 ?k6 ?k7 ?k8 ?_; walk_at "mine rest"; k_whole); intro _ _ _ _ _ _; (try dsimp only)))
  k_with "own call ref" => (((with_reducible show wpAny _ _ (call (Value.ref 142) _) _ _ _); k_dflt (refine' Does.nat (prod2_spec (x := 2) (y := 3) ?w3 ?w8 ?b1 ?b2 ?b3 ?c1 ?l1 ?t1 ?t2) ?k1 ?k2 ?k3 ?k4 ?k5 ?k6 ?k7 ?k8 ?_; (case w3 => assumption); (case w8 => assumption); (case c1 => assumption); (case l1 => walk_at "mine list"); (case t1 => exact tupNews (by k_asm) (by k_mem)); (case b1 => (first | omega | decide)); (case t2 => exact tupNews (by k_asm) (by k_mem)); (case b2 => (first | omega | decide)); (case b3 => (first | omega | decide)); walk_at "mine rest"; k_whole); intro _ _ _ _ _ _ _ _ _ _ _ _; (try dsimp only)))
  k_with "own eval Name" => ((k_here; (with_reducible show wpAny _ _ (eval (Expr.Name (Str.ofString "n") _) (envOfC _ _ _ _ _)) _ _ _); k_dflt (refine' nameX_C ?N ?c ?m ?d ?_ ?a ?b; (case a => exact rfl); (case b => exact rfl); (case N => k_asm); (case c => exact rfl); (case m => k_mem); (case d => k_asm); k_whole)))
  k_with "own eval Name" => ((k_here; (with_reducible show wpAny _ _ (eval (Expr.Name _ _) (compEnvC _ _ _ _)) _ _ _); k_dflt (first
  | refine LCgL.ld_own (by k_asm) (by k_mem) (by assumption) (by assumption) ?_
  | (refine' lcf_free ?N ?c ?m ?d ?_ ?a ?b; (case a => exact rfl); (case b => exact rfl); (case N => k_asm); (case c => exact rfl); (case m => k_mem); (case d => k_asm); k_whole)
  | refine LCgL.ld_global (by k_asm) (by k_asm) (by k_asm) (by k_is) ?_)))
  k_with "own eval ListComp" => ((k_here; k_dflt (refine LCt.ListComp_T (F₀ := by k_asm) (by with_unfolding_all rfl) (by decide) (by rfl) (by decide) (by rfl) ?_); walk1; (try dsimp only); (refine LCt.CompSrcT.ledger (by rfl) (by k_asm) (by k_asm) (by k_mem) (by show (2 : Nat) ≤ sizeLine; decide) ?_); intro _; lct_lit))
  k_with "own exec Assign cons ListComp" => ((k_here; k_dflt (refine LCg.Assign_ListComp_U (F₀ := by k_asm) (by rfl) (by with_unfolding_all rfl) (by with_unfolding_all rfl) (by decide) (by rfl) (by decide) (by rfl) (by rfl) (by rfl) ?_)))
  k_with "own eval Name" => ((k_here; (with_reducible show wpAny _ _ (eval (Expr.Name (Str.ofString "pairs") _) (envOfC _ _ _ _ _)) _ _ _); k_dflt (refine' nameX_L ?F ?v ?_ ?a ?b; (case F => k_asm); (case a => exact rfl); (case b => exact rfl); (case v => exact rfl); k_whole)))
  k_with "own eval Name" => ((k_here; (with_reducible show wpAny _ _ (eval (Expr.Name (Str.ofString "w") _) (envOfC _ _ _ _ _)) _ _ _); k_dflt (refine' nameX_L ?F ?v ?_ ?a ?b; (case F => k_asm); (case a => exact rfl); (case b => exact rfl); (case v => exact rfl); k_whole)))
  k_with "own eval Name" => ((k_here; (with_reducible show wpAny _ _ (eval (Expr.Name (Str.ofString "mul") _) (envOfC _ _ _ _ _)) _ _ _); k_dflt (refine' nameX_L ?F ?v ?_ ?a ?b; (case F => k_asm); (case a => exact rfl); (case b => exact rfl); (case v => exact rfl); k_whole)))
  k_with "own eval Name" => ((k_here; (with_reducible show wpAny _ _ (eval (Expr.Name (Str.ofString "sieve") _) (envOfC _ _ _ _ _)) _ _ _); k_dflt (refine' nameX_K ?F ?X ?T ?e ?_ ?a ?b; (case F => k_asm); (case X => k_asm); (case T => k_asm); (case a => exact rfl); (case b => exact rfl); (case e => k_is); k_whole)))
  k_with "own eval Name" => ((k_here; (with_reducible show wpAny _ _ (eval (Expr.Name (Str.ofString "product_of_powers") _) (envOfC _ _ _ _ _)) _ _ _); k_dflt (refine' nameX_K ?F ?X ?T ?e ?_ ?a ?b; (case F => k_asm); (case X => k_asm); (case T => k_asm); (case a => exact rfl); (case b => exact rfl); (case e => k_is); k_whole)))
  k_with "own eval Name" => ((k_here; (with_reducible show wpAny _ _ (eval (Expr.Name (Str.ofString "swing_exponent") _) (compEnvC _ _ _ _)) _ _ _); k_dflt (refine LCgL.ld_global (by k_asm) (by k_asm) (by k_asm) (by k_is) ?_)))
  k_with "own eval Name" => ((k_here; (with_reducible show wpAny _ _ (eval (Expr.Name (Str.ofString "prime") _) (compEnvC _ _ _ _)) _ _ _); k_dflt (refine LCgL.ld_own (by k_asm) (by k_mem) (by assumption) (by assumption) ?_)))
  k_with "own eval Name" => ((k_here; (with_reducible show wpAny _ _ (eval (Expr.Name (Str.ofString "pair") _) (compEnvC _ _ _ _)) _ _ _); k_dflt (refine LCgL.ld_own (by k_asm) (by k_mem) (by assumption) (by assumption) ?_)))
  k_with "own eval Name" => ((k_here; (with_reducible show wpAny _ _ (eval (Expr.Name (Str.ofString "n") _) (compEnvC _ _ _ _)) _ _ _); k_dflt (refine' lcf_free ?N ?c ?m ?d ?_ ?a ?b; (case a => exact rfl); (case b => exact rfl); (case N => k_asm); (case c => exact rfl); (case m => k_mem); (case d => k_asm); k_whole)))
  trivial
set_option maxRecDepth 100000 in
set_option maxHeartbeats 2000000 in
theorem swing4_spec {w : World} {h : Heap} {W : Nat} {tx tw : Tok} (hW3 : 3 ≤ W) (hW8 : W ≤ 8) (h1c : Canon W 1 [1]) :
    Does w 10 154 [.int 4 tx, .int W tw, .ref 175] h (IsNewNat h W 6) := by
  intro mean mg mb dp un gd cn cs L a ccd cl outer A₀ base h₀ m gens drawn tk os Q E B F X T hk hd hu hret
  refine' enterC [(Str.ofString "n", .int 4 tx), (Str.ofString "w", .int W tw), (Str.ofString "mul", .ref 175)] ?kB ?kF ?kX ?kT ?kk ?ho ?hcd ?hroom ?hbind ?hkind ?hnd ?hco ?hgen ?hkf ?_
  k_dflt ((case kB => k_asm); (case kF => k_asm); (case kX => k_asm); (case kT => k_asm); (case kk => k_asm); (case ho => k_is); (case hcd => k_is); (case hroom => (simp only [recursionLimit]; omega)); (case hbind => exact BindsTo.of_eq rfl); (case hkind => exact rfl); (case hnd => decide +kernel); (case hco => exact rfl); (case hgen => exact rfl); (case hkf => exact rfl))
  clear B F X T hk
  intro g L' h' tk' cells hg' F' N' Y' B' X' T'
  dsimp only at hg'; subst hg'
  k_cells Y'
  rename _ = Data.cell _ => d1
  have d2 : _ = Data.cell (some (.int 4 tx)) := d1
  have F2 : Fr g L' h' (mapOf [(Str.ofString "mul", some (Value.ref 175)), (Str.ofString "w", some (Value.int W tw))]) := F'
  clear d1 F'
  k_steps
  refine hret _ _ _ (Fr.keep (by assumption)) ⟨_, ?_, retList (by assumption) (by k_mem) (by assumption)⟩
  assumption

theorem words_fact : True := by w_top off; k_with_none; trivial
theorem words_fact_0 : True := by
  k_with "mine list" => (exact newsList (by k_asm) (by k_mem))
  k_with "mine ints" => (first | assumption | exact IntsAre.cons _ _ .nil | exact IntsAre.nil)
  k_with "mine bound" => (first | assumption | omega | decide)
  k_with "mine rest" => (((case k1 => k_asm); (case k2 => k_asm); (case k3 => k_asm); (case k4 => k_asm); (case k5 => k_asm); (case k6 => exact rfl); (case k7 => omega); (case k8 => omega)))
  k_with "own call ref" => (((with_reducible show wpAny _ _ (call (Value.ref 175) _) _ _ _); k_dflt (refine' Does.nat (mul_spec ?w3 ?w8 ?l1 ?i1 ?c1 ?l2 ?i2 ?c2 ?b1 ?b2) ?k1 ?k2 ?k3 ?k4 ?k5 ?k6 ?k7 ?k8 ?_; (case w3 => assumption); (case w8 => assumption); (case l1 => walk_at "mine list"); (case i1 => walk_at "mine ints"); (case c1 => assumption); (case l2 => walk_at "mine list"); (case i2 => walk_at "mine ints"); (case c2 => assumption); (case b1 => walk_at "mine bound"); (case b2 => walk_at "mine bound"); walk_at "mine rest"; k_whole); intro _ _ _ _ _ _ _ _ _ _ _ _; (try dsimp only)))
  trivial
set_option maxRecDepth 100000 in
set_option maxHeartbeats 1000000 in
theorem needc_spec {w : World} {h : Heap} {n : Nat} {t : Tok} : Does w 1 128 [.int n t] h (fun _ r => r = .none) := by
  intro mean mg mb dp un gd cn cs L a ccd cl outer A₀ base h₀ m gens drawn tk os Q E B F X T hk hd hu hret
  refine' enterM [(Str.ofString "n", .int n t)] ?kB ?kF ?kX ?kT ?kk ?ho ?hcd ?hroom ?hbind ?hloc ?hco ?hgen ?hkf ?hcell ?_
  walk_at "mine cases"
  clear B F X T hk
  intro g L' h' tk' hg' F' N' B' X' T'
  dsimp only at hg'; subst hg'
  simp only [List.reverse_cons, List.reverse_nil, List.nil_append, List.cons_append, List.map_cons, List.map_nil] at F'
  k_steps
  exact hret _ _ _ (Fr.keep (by assumption)) rfl
theorem Does.unit {w : World} {need : Nat} {f : Addr} {args : List Value} {h : Heap}
  {mean : ExcName → Option Value} {mg mb : Str → Option Value} {dp un : Nat} {gd : Option (List Code)} {cn : Str} {cs : Scope} {L a : Addr} {ccd : Value} {cl : List (Str × Addr)} {outer : List Env} {A₀ : Around} {base h₀ : Heap} {m : Str → Option Value}
    {gens : Array GenState} {drawn : Drawn} {tk : Nat} {os : OsState} {Q E : Value → Shared → Prop} {news : List (Addr × Obj)} (C : Does w need f args h (fun _ r => r = .none)) (B : Below A₀ base outer h₀) (F : Fr h₀ L h m) (X : Frag.In (hd.heap_39 w.params) h₀) (N : News h₀ L h news) (T : Top VW LW mean mg mb h₀) (hk : cs.kind = .function) (hd : dp + need ≤ 900) (hu : un + 10 * need ≤ 9000)
    (go : ∀ h' tk', Fr h₀ L h' m → News h₀ L h' news → (∀ b o, h.get? b = some o → h'.get? b = some o) → Q .none ⟨h', gens, drawn, tk', os⟩) :
    wpAny (model PR w) (ktrTop dp un gd cn cs L a ccd cl outer) (call (.ref f) args) Q E ⟨h, gens, drawn, tk, os⟩ := by
  refine C _ _ _ _ _ _ _ _ _ _ _ _ _ _ _ _ _ _ _ _ _ _ _ B F X T hk hd hu ?_
  rintro r h' tk' e rfl
  exact go h' tk' (F.after e) (News.keepsAll N e) e
theorem words_fact_1 : True := by
  k_with "own call ref" => (((with_reducible show wpAny _ _ (call (Value.ref 128) _) _ _ _); k_dflt (refine' Does.unit (needc_spec ) ?k1 ?k2 ?k3 ?k4 ?k5 ?k6 ?k7 ?k8 ?_; walk_at "mine rest"; k_whole); intro _ _ _ _ _; (try dsimp only)))
  trivial
set_option maxRecDepth 100000 in
set_option maxHeartbeats 1000000 in
theorem fact1_spec {w : World} {h : Heap} {W : Nat} {tx tw : Tok} (hW3 : 3 ≤ W) (hW8 : W ≤ 8) (h1c : Canon W 1 [1]) :
    Does w 4 161 [.int 1 tx, .int W tw, .ref 175] h (IsNewNat h W 1) := by
  intro mean mg mb dp un gd cn cs L a ccd cl outer A₀ base h₀ m gens drawn tk os Q E B F X T hk hd hu hret
  refine' enterM [(Str.ofString "n", .int 1 tx), (Str.ofString "w", .int W tw), (Str.ofString "mul", .ref 175)] ?kB ?kF ?kX ?kT ?kk ?ho ?hcd ?hroom ?hbind ?hloc ?hco ?hgen ?hkf ?hcell ?_
  walk_at "mine cases"
  clear B F X T hk
  intro g L' h' tk' hg' F' N' B' X' T'
  dsimp only at hg'; subst hg'
  simp only [List.reverse_cons, List.reverse_nil, List.nil_append, List.cons_append, List.map_cons, List.map_nil] at F'
  k_steps
  refine hret _ _ _ (Fr.keep (by assumption)) ⟨_, ?_, retList (by assumption) (by k_mem) (by walk_at "mine ints")⟩
  assumption
theorem words_fact_2 : True := by
  k_with "own call ref" => (((with_reducible show wpAny _ _ (call (Value.ref 161) _) _ _ _); k_dflt (refine' Does.nat (fact1_spec ?w3 ?w8 ?c1) ?k1 ?k2 ?k3 ?k4 ?k5 ?k6 ?k7 ?k8 ?_; (case w3 => assumption); (case w8 => assumption); (case c1 => assumption); walk_at "mine rest"; k_whole); intro _ _ _ _ _ _ _ _ _ _ _ _; (try dsimp only)))
  k_with "own call ref" => (((with_reducible show wpAny _ _ (call (Value.ref 154) _) _ _ _); k_dflt (refine' Does.nat (swing2_spec ?w3 ?w8 ?c1) ?k1 ?k2 ?k3 ?k4 ?k5 ?k6 ?k7 ?k8 ?_; (case w3 => assumption); (case w8 => assumption); (case c1 => assumption); walk_at "mine rest"; k_whole); intro _ _ _ _ _ _ _ _ _ _ _ _; (try dsimp only)))
  trivial
set_option maxRecDepth 100000 in
set_option maxHeartbeats 1000000 in
theorem fact2_spec {w : World} {h : Heap} {W : Nat} {tx tw : Tok} (hW3 : 3 ≤ W) (hW8 : W ≤ 8) (h1c : Canon W 1 [1]) :
    Does w 14 161 [.int 2 tx, .int W tw, .ref 175] h (IsNewNat h W (1 * 1 * 2)) := by
  intro mean mg mb dp un gd cn cs L a ccd cl outer A₀ base h₀ m gens drawn tk os Q E B F X T hk hd hu hret
  refine' enterM [(Str.ofString "n", .int 2 tx), (Str.ofString "w", .int W tw), (Str.ofString "mul", .ref 175)] ?kB ?kF ?kX ?kT ?kk ?ho ?hcd ?hroom ?hbind ?hloc ?hco ?hgen ?hkf ?hcell ?_
  walk_at "mine cases"
  clear B F X T hk
  intro g L' h' tk' hg' F' N' B' X' T'
  dsimp only at hg'; subst hg'
  simp only [List.reverse_cons, List.reverse_nil, List.nil_append, List.cons_append, List.map_cons, List.map_nil] at F'
  k_steps
  refine hret _ _ _ (Fr.keep (by assumption)) ⟨_, ?_, retList (by assumption) (by k_mem) (by walk_at "mine ints")⟩
  assumption
theorem words_fact_3 : True := by
  k_with "own call ref" => (((with_reducible show wpAny _ _ (call (Value.ref 161) _) _ _ _); k_dflt (refine' Does.nat (fact1_spec ?w3 ?w8 ?c1) ?k1 ?k2 ?k3 ?k4 ?k5 ?k6 ?k7 ?k8 ?_; (case w3 => assumption); (case w8 => assumption); (case c1 => assumption); walk_at "mine rest"; k_whole); intro _ _ _ _ _ _ _ _ _ _ _ _; (try dsimp only)))
  k_with "own call ref" => (((with_reducible show wpAny _ _ (call (Value.ref 154) _) _ _ _); k_dflt (refine' Does.nat (swing3_spec ?w3 ?w8 ?c1) ?k1 ?k2 ?k3 ?k4 ?k5 ?k6 ?k7 ?k8 ?_; (case w3 => assumption); (case w8 => assumption); (case c1 => assumption); walk_at "mine rest"; k_whole); intro _ _ _ _ _ _ _ _ _ _ _ _; (try dsimp only)))
  trivial
set_option maxRecDepth 100000 in
set_option maxHeartbeats 1000000 in
theorem fact3_spec {w : World} {h : Heap} {W : Nat} {tx tw : Tok} (hW3 : 3 ≤ W) (hW8 : W ≤ 8) (h1c : Canon W 1 [1]) :
    Does w 14 161 [.int 3 tx, .int W tw, .ref 175] h (IsNewNat h W (1 * 1 * 6)) := by
  intro mean mg mb dp un gd cn cs L a ccd cl outer A₀ base h₀ m gens drawn tk os Q E B F X T hk hd hu hret
  refine' enterM [(Str.ofString "n", .int 3 tx), (Str.ofString "w", .int W tw), (Str.ofString "mul", .ref 175)] ?kB ?kF ?kX ?kT ?kk ?ho ?hcd ?hroom ?hbind ?hloc ?hco ?hgen ?hkf ?hcell ?_
  walk_at "mine cases"
  clear B F X T hk
  intro g L' h' tk' hg' F' N' B' X' T'
  dsimp only at hg'; subst hg'
  simp only [List.reverse_cons, List.reverse_nil, List.nil_append, List.cons_append, List.map_cons, List.map_nil] at F'
  k_steps
  refine hret _ _ _ (Fr.keep (by assumption)) ⟨_, ?_, retList (by assumption) (by k_mem) (by walk_at "mine ints")⟩
  assumption
theorem words_fact_4 : True := by
  k_with "own call ref" => (((with_reducible show wpAny _ _ (call (Value.ref 161) _) _ _ _); k_dflt (refine' Does.nat (fact2_spec ?w3 ?w8 ?c1) ?k1 ?k2 ?k3 ?k4 ?k5 ?k6 ?k7 ?k8 ?_; (case w3 => assumption); (case w8 => assumption); (case c1 => assumption); walk_at "mine rest"; k_whole); intro _ _ _ _ _ _ _ _ _ _ _ _; (try dsimp only)))
  k_with "own call ref" => (((with_reducible show wpAny _ _ (call (Value.ref 154) _) _ _ _); k_dflt (refine' Does.nat (swing4_spec ?w3 ?w8 ?c1) ?k1 ?k2 ?k3 ?k4 ?k5 ?k6 ?k7 ?k8 ?_; (case w3 => assumption); (case w8 => assumption); (case c1 => assumption); walk_at "mine rest"; k_whole); intro _ _ _ _ _ _ _ _ _ _ _ _; (try dsimp only)))
  trivial
set_option maxRecDepth 100000 in
set_option maxHeartbeats 1000000 in
theorem fact4_spec {w : World} {h : Heap} {W : Nat} {tx tw : Tok} (hW3 : 3 ≤ W) (hW8 : W ≤ 8) (h1c : Canon W 1 [1]) :
    Does w 18 161 [.int 4 tx, .int W tw, .ref 175] h (IsNewNat h W (1 * 1 * 2 * (1 * 1 * 2) * 6)) := by
  intro mean mg mb dp un gd cn cs L a ccd cl outer A₀ base h₀ m gens drawn tk os Q E B F X T hk hd hu hret
  refine' enterM [(Str.ofString "n", .int 4 tx), (Str.ofString "w", .int W tw), (Str.ofString "mul", .ref 175)] ?kB ?kF ?kX ?kT ?kk ?ho ?hcd ?hroom ?hbind ?hloc ?hco ?hgen ?hkf ?hcell ?_
  walk_at "mine cases"
  clear B F X T hk
  intro g L' h' tk' hg' F' N' B' X' T'
  dsimp only at hg'; subst hg'
  simp only [List.reverse_cons, List.reverse_nil, List.nil_append, List.cons_append, List.map_cons, List.map_nil] at F'
  k_steps
  refine hret _ _ _ (Fr.keep (by assumption)) ⟨_, ?_, retList (by assumption) (by k_mem) (by walk_at "mine ints")⟩
  assumption

theorem words_lawrules : True := by w_top off; k_with_none; trivial
theorem mapOf_nones : ∀ (xs : List Str) (l : List (Str × Option Value)), mapOf (l ++ xs.map (fun x => (x, none))) = mapOf l
  | [], l => by simp
  | x :: xs, l => by
    rw [List.map_cons, show l ++ (x, none) :: xs.map (fun x => (x, none)) = (l ++ [(x, none)]) ++ xs.map (fun x => (x, none)) by simp, mapOf_nones xs, mapOf_declare]
section
variable {M : Model} {A : Around} {E : Value → Shared → Prop} {s : Shared} {cn : Str} {cs : Scope} {L a : Addr} {ccd : Value} {cl : List (Str × Addr)} {h₀ : Heap} {news : List (Addr × Obj)}
theorem stMX {x : Str} {v : Value} {l l' : List (Str × Option Value)} {Q : Unit → Shared → Prop} (F : Fr h₀ L s.heap (mapOf l)) (N : News h₀ L s.heap news) (e : put x (some v) l = l')
    (h : ∀ h', Fr h₀ L h' (mapOf l') → News h₀ L h' news → Q () { s with heap := h', toks := s.toks + 1 })
    (hk : cs.kind = .function := by rfl) (hx : (envX cn cs L a ccd cl).kindOf x = some .local := by rfl) :
    wpAny M A (storeName (envX cn cs L a ccd cl) x v) Q E s :=
  storeX_L F N (fun h' F' N' => h h' (frPut F' e) N') hk hx
end
section
variable {prog : Program} {w : World} {A : Around} {E : Value → Shared → Prop} {s : Shared} {env : Env} {h₀ : Heap} {body : List Stmt} {Q : Flow → Shared → Prop}
def TEnd {σ : Type} (h₀ : Heap) (L : Addr) (s : Shared) (mm : σ → List (Str × Option Value)) (led : σ → List (Addr × Obj)) (P : σ → Prop) (own : List (Addr × Obj)) (adr : List Addr) (f : Flow) (s₂ : Shared) : Prop :=
  f = .next ∧ ∃ (c : σ) (h' : Heap) (tk : Nat) (news' : List (Addr × Obj)), s₂ = { s with heap := h', toks := tk } ∧ Fr h₀ L h' (mapOf (mm c)) ∧ News h₀ L h' news' ∧ (∀ p ∈ led c, p ∈ news') ∧ (∀ p ∈ own, p ∈ news') ∧ (led c).map (·.1) = adr ∧ P c
theorem for_rangeT_m {σ : Type} {L : Addr} {r : Addr} {a₀ b₀ : Int} {t₀ u₀ v₀ : Tok} {n : Nat} {target : Expr} (mm : σ → List (Str × Option Value)) (led : σ → List (Addr × Obj)) (P : Nat → σ → Prop) (c₀ : σ)
    (hr : IsRange s.heap r a₀ b₀ 1 t₀ u₀ v₀) (hsmall : Builtin.Range.small a₀ b₀ 1 = true) (hn : Builtin.Range.rangeSize a₀ b₀ 1 = (n : Int))
    (F : Fr h₀ L s.heap (mapOf (mm c₀))) (N : News h₀ L s.heap (led c₀)) (hp : P 0 c₀)
    (hgo : ∀ it v, letOwnedTupleGo target it v = pure ())
    (turn : ∀ (i : Nat) (c : σ) t s₁ own, i < n → OwnOff own ((led c₀).map (·.1)) → (led c).map (·.1) = (led c₀).map (·.1) → P i c →
      Fr h₀ L s₁.heap (mapOf (mm c)) → News h₀ L s₁.heap (led c ++ own) →
      wpAny (model prog w) A (assign target env (.int (a₀ + i) t)) (fun _ s₃ => wpAny (model prog w) A (execs body env) (TEnd h₀ L s₁ mm led (P (i + 1)) own ((led c₀).map (·.1))) E s₃) E s₁)
    (done : ∀ (c : σ) h tk, P n c → Fr h₀ L h (mapOf (mm c)) → News h₀ L h (led c) → Q .next { s with heap := h, toks := tk })
    (hL : env.locals = L := by rfl) (hh : A.handled = none := by rfl) :
    wpAny (model prog w) A (pyIter (.ref r)) (fun it s₂ => LoopAtT prog w A h₀ env target body Q E it s₂) E s := by
  subst hL
  refine wpAny_pyIter_range hr hsmall ?_
  have W : Walks prog w A s.heap.objs.size [s.heap.objs.size] [s.heap.objs.size] n (fun i v => i < n ∧ ∃ t, v = .int (a₀ + i * 1) t)
      (fun i h => IsRangeIter h s.heap.objs.size (a₀ + (i : Nat) * 1) ((n : Int) - (i : Nat)) 1) := (Walks.range hh _ a₀ 1 n).bound
  refine ⟨s.heap.objs.size, _, _, n, _, _, _, led c₀, fun i m nx => nx.map (·.1) = (led c₀).map (·.1) ∧ ∃ c, nx = led c ∧ m = mapOf (mm c) ∧ P i c, rfl, W, ?_, ?_, ?_, by show IsRangeIter _ _ _ _ _; rw [hn]; simpa using Heap.get?_push_size _ rfl, F.push _, fun p hp => ⟨Heap.get?_push_of_some _ (N p hp).1, (N p hp).2⟩, ?_, ⟨rfl, c₀, rfl, rfl, hp⟩, ?_, ?_⟩
  · intro hm
    exact absurd F.ns.lt ((List.mem_singleton.mp hm) ▸ Nat.lt_irrefl _)
  · intro b hb
    rw [List.mem_singleton.mp hb]
    exact next_is_new F
  · intro p hp hI
    exact absurd (Heap.lt_size (N p hp).1) ((List.mem_singleton.mp hI) ▸ Nat.lt_irrefl _)
  · intro i s' v Q' _ hq
    rw [hgo]
    exact wpAny_pure hq
  · rintro i v m₁ nx s₁ own hi ⟨_, t, rfl⟩ ⟨hadr, c, rfl, rfl, hp'⟩ hoff hown hget _ _ F₁ N₁
    have e1 : a₀ + (i : Int) * 1 = a₀ + (i : Int) := by omega
    rw [e1]
    have hsep : OwnOff own ((led c₀).map (·.1)) := by
      intro p hp b hb e
      rw [← hadr] at hb
      obtain ⟨q, hq, rfl⟩ := List.mem_map.mp hb
      exact hoff q hq (e ▸ hown p hp)
    refine wpAny_mono (turn i c t s₁ own hi hsep hadr hp' F₁ (fun p hp => N₁ p ((List.mem_append.mp hp).elim (fun h => List.mem_append.mpr (.inr h)) fun h => List.mem_append.mpr (.inl h)))) (fun _ s₃ h₃ => wpAny_mono h₃ (fun f s₄ q => ?_) fun _ _ x => x) fun _ _ x => x
    obtain ⟨rfl, c', h', tk', news', rfl, F', N', h1, h2, h3, h4⟩ := q
    refine LoopStepU.intro F' (fun p hp => N' p ((List.mem_append.mp hp).elim (h2 p) (h1 p))) (fun p hp hI => ?_) ⟨h3, c', rfl, rfl, h4⟩
    have q1 : p.1 ∈ (led c').map (·.1) := List.mem_map.mpr ⟨p, hp, rfl⟩
    rw [h3, ← hadr] at q1
    obtain ⟨q, hq, e⟩ := List.mem_map.mp q1
    exact hoff q hq (e ▸ hI)
  · rintro h tk m' nx F₁ N₁ _ ⟨_, c, rfl, rfl, hp'⟩
    exact done c h tk hp' F₁ N₁
end
theorem sides_perm : ∀ p : Fin 5, (rangeKs 0 (2 ^ p.val)).Perm (evs (2 ^ p.val) ++ ods (2 ^ p.val)) := by decide +kernel
theorem sorted_sides {p : Nat} {ns : List Int} (hp : p ≤ 4) (h : ns.Perm (evs (2 ^ p) ++ ods (2 ^ p))) (s : List.Pairwise (fun x y => x ≤ y) ns) : ns = rangeKs 0 (2 ^ p) := by
  refine List.Perm.eq_of_pairwise (le := fun x y => x ≤ y) (fun a b _ _ h1 h2 => Int.le_antisymm h1 h2) s ?_ (h.trans (sides_perm ⟨p, by omega⟩).symm)
  unfold rangeKs
  rw [List.pairwise_map]
  exact List.Pairwise.imp (fun h => by omega) List.pairwise_lt_range

theorem words_rules2 : True := by w_top off; k_with_none; trivial
section
variable {prog : Program} {w : World} {A : Around} {E : Value → Shared → Prop} {s : Shared} {env : Env} {h₀ : Heap} {body : List Stmt} {Q : Flow → Shared → Prop} {x : Str}
def GEnd {σ : Type} (h₀ : Heap) (L : Addr) (s : Shared) (mm : σ → Option Value → List (Str × Option Value)) (led : σ → List (Addr × Obj)) (P : σ → Prop) (own : List (Addr × Obj)) (adr : List Addr) (f : Flow) (s₂ : Shared) : Prop :=
  f = .next ∧ ∃ (c : σ) (u : Option Value) (h' : Heap) (tk : Nat) (news' : List (Addr × Obj)), s₂ = { s with heap := h', toks := tk } ∧ Fr h₀ L h' (mapOf (mm c u)) ∧ News h₀ L h' news' ∧ (∀ p ∈ led c, p ∈ news') ∧ (∀ p ∈ own, p ∈ news') ∧ (∀ p ∈ led c, p.1 ∈ adr ∨ p.2.cls ≠ .type "list_iterator") ∧ P c
theorem for_vals_m {σ : Type} {L : Addr} {l : Addr} {vs : List Value} {nn : Nat} (mm : σ → Option Value → List (Str × Option Value)) (led : σ → List (Addr × Obj)) (P : Nat → σ → Prop) (c₀ : σ) (w₀ : Option Value)
    (hput : ∀ c u v, put x v (mm c u) = mm c v)
    (hl : ∀ c, (l, listOf vs.toArray nn) ∈ led c)
    (F : Fr h₀ L s.heap (mapOf (mm c₀ w₀))) (N : News h₀ L s.heap (led c₀)) (hp : P 0 c₀)
    (turn : ∀ (i : Nat) (c : σ) v h tk own, vs[i]? = some v → i < vs.length → OwnOff own ((led c).map (·.1)) → P i c →
      Fr h₀ L h (mapOf (mm c (some v))) → News h₀ L h (led c ++ own) →
      wpAny (model prog w) A (execs body env) (GEnd h₀ L s mm led (P (i + 1)) own ((led c).map (·.1))) E { s with heap := h, toks := tk })
    (done : ∀ (c : σ) u h tk, P vs.length c → Fr h₀ L h (mapOf (mm c u)) → News h₀ L h (led c) → Q .next { s with heap := h, toks := tk })
    (hL : env.locals = L := by rfl) (hh : A.handled = none := by rfl) :
    wpAny (model prog w) A (pyIter (.ref l)) (fun it s₂ => LoopAtV prog w A h₀ env x body Q E it s₂) E s := by
  subst hL
  have hol := (N _ (hl c₀)).1
  have hls : s.heap.IsList l vs.toArray := ⟨_, hol, rfl, nn, rfl⟩
  have hne : l ≠ s.heap.objs.size := Nat.ne_of_lt (Heap.lt_size hol)
  refine wpAny_pyIter_list hls ?_
  have W := Walks.list (prog := prog) (w := w) hh s.heap.objs.size l hne vs.toArray
  rw [List.size_toArray] at W
  have hnew := next_is_new F
  refine ⟨_, _, _, vs.length, _, _, _, led c₀, fun i m nx => ∃ c u, nx = led c ∧ m = mapOf (mm c u) ∧ P i c, rfl, W, ?_, ?_, ?_, ⟨⟨_, Heap.get?_push_size _ rfl, rfl, rfl⟩, hls.at fun o e => Heap.get?_push_of_some _ e⟩, F.push _, fun p hp => ⟨Heap.get?_push_of_some _ (N p hp).1, (N p hp).2⟩, ⟨c₀, w₀, rfl, rfl, hp⟩, ?_, ?_⟩
  · intro hm
    rcases List.mem_cons.mp hm with e | hm
    · exact absurd F.ns.lt (e ▸ Nat.lt_irrefl _)
    · exact (N _ (hl c₀)).2.1 ((List.mem_singleton.mp hm).symm)
  · intro b hb
    rw [List.mem_singleton.mp hb]
    exact hnew
  · intro p hp hI
    exact absurd (Heap.lt_size (N p hp).1) ((List.mem_singleton.mp hI) ▸ Nat.lt_irrefl _)
  · rintro i v m₁ nx s₁ own ⟨hh', tk', rfl⟩ hi hP ⟨c, u, rfl, rfl, hp'⟩ hoff hown hget hall hst F₁ N₁
    have hv : vs[i]? = some v := by simpa using hP
    obtain ⟨⟨io, hio, hcls, _⟩, _⟩ := hst
    have hmem := hall s.heap.objs.size (List.mem_cons_self ..) hnew _ hio
    have off : ∀ p, p ∈ own → p.1 = l → p = (l, listOf vs.toArray nn) := fun p hp e => by
      have h1 := hget p hp
      rw [e, (N₁ _ (List.mem_append.mpr (.inr (hl c)))).1] at h1
      exact Prod.ext e (Option.some.inj h1).symm
    have mine : ∀ p, p ∈ own → p.1 = l ∨ p ∈ own.filter fun p => decide (p.1 = s.heap.objs.size) := fun p hp => by
      rcases List.mem_cons.mp (hown p hp) with e | e
      · exact .inr (List.mem_filter.mpr ⟨hp, by simpa using e⟩)
      · exact .inl (List.mem_singleton.mp e)
    have hsep : OwnOff (own.filter fun p => decide (p.1 = s.heap.objs.size)) ((led c).map (·.1)) := by
      intro p hp b hb e
      obtain ⟨q, hq, rfl⟩ := List.mem_map.mp hb
      have h1 : p.1 = s.heap.objs.size := by simpa using (List.mem_filter.mp hp).2
      exact hoff q hq (List.mem_singleton.mpr (e.symm.trans h1))
    refine wpAny_mono (turn i c v hh' tk' _ hv (List.getElem?_eq_some_iff.mp hv).1 hsep hp' (frPut F₁ (hput _ _ _)) (fun p hp => N₁ p ((List.mem_append.mp hp).elim (fun h => List.mem_append.mpr (.inr h)) fun h => List.mem_append.mpr (.inl (List.mem_filter.mp h).1)))) (fun f s₂ q => ?_) fun _ _ x => x
    obtain ⟨rfl, c', u', h', tk', news', rfl, F', N', h1, h2, h3, h4⟩ := q
    refine .next ⟨rfl, h', tk', _, led c', rfl, F', fun p hp => ?_, fun p hp hI => ?_, c', u', rfl, rfl, h4⟩
    · rcases List.mem_append.mp hp with hp | hp
      · rcases mine p hp with e | e
        · rw [off p hp e]; exact N' _ (h1 _ (hl c'))
        · exact N' p (h2 p e)
      · exact N' p (h1 p hp)
    · rcases h3 p hp with e | e
      · obtain ⟨q, hq, e⟩ := List.mem_map.mp e
        exact hoff q hq (e ▸ hI)
      · have g1 := (N' _ (h1 p hp)).1
        have g2 := (N' _ (h2 _ (List.mem_filter.mpr ⟨hmem, by simp⟩))).1
        rw [show p.1 = s.heap.objs.size from List.mem_singleton.mp hI] at g1
        have g3 : some io = some p.2 := g2.symm.trans g1
        exact e ((congrArg Obj.cls (Option.some.inj g3)).symm.trans hcls)
  · rintro h tk m' nx F₁ N₁ _ ⟨c, u, rfl, rfl, hp'⟩
    exact done c u h tk hp' F₁ N₁
end

theorem words_lawmath : True := by w_top off; k_with_none; trivial
def ps (S V e : Nat) (l : List Int) : Nat := (l.map fun k => (S * k.toNat + V) ^ e).sum
theorem ps_snoc (S V e : Nat) (l : List Int) (k : Int) : ps S V e (l ++ [k]) = ps S V e l + (S * k.toNat + V) ^ e := by simp [ps]
theorem ps_take {S V e : Nat} {l : List Int} {j : Nat} {k : Int} (h : l[j]? = some k) : ps S V e (l.take (j + 1)) = ps S V e (l.take j) + (S * k.toNat + V) ^ e := by
  rw [List.take_add_one, h]; exact ps_snoc ..
theorem term_le {S V e k : Nat} (hS : S ≤ 5) (hV : V ≤ 8) (he : e ≤ 4) (hk : k ≤ 15) : (S * k + V) ^ e ≤ 47458321 := by
  have h1 : S * k ≤ 5 * 15 := Nat.mul_le_mul hS hk
  have h2 : (S * k + V) ^ e ≤ 83 ^ e := Nat.pow_le_pow_left (by omega) e
  have h3 : 83 ^ e ≤ 83 ^ 4 := Nat.pow_le_pow_right (by decide) he
  exact Nat.le_trans h2 (Nat.le_trans h3 (by decide))
theorem ps_le {S V e : Nat} (hS : S ≤ 5) (hV : V ≤ 8) (he : e ≤ 4) : ∀ {l : List Int}, (∀ k ∈ l, 0 ≤ k ∧ k < 16) → ps S V e l ≤ l.length * 47458321
  | [], _ => by simp [ps]
  | k :: l, h => by
    have ih := ps_le hS hV he (l := l) (fun k hk => h k (.tail _ hk))
    have h0 := h k (.head _)
    have ht := term_le hS hV he (show k.toNat ≤ 15 by omega)
    have e1 : ps S V e (k :: l) = (S * k.toNat + V) ^ e + ps S V e l := by simp [ps]
    rw [e1, List.length_cons]
    omega
theorem ps_small {S V e : Nat} {l : List Int} (hS : S ≤ 5) (hV : V ≤ 8) (he : e ≤ 4) (h : ∀ k ∈ l, 0 ≤ k ∧ k < 16) (hl : l.length ≤ 16) (j : Nat) : ps S V e (l.take j) < 1073741824 := by
  have h1 := ps_le hS hV he (l := l.take j) (fun k hk => h k (List.mem_of_mem_take hk))
  have h2 : (l.take j).length ≤ 16 := by rw [List.length_take]; omega
  omega
theorem evs_bd {n : Nat} (h : n ≤ 16) : ∀ k ∈ evs n, 0 ≤ k ∧ k < 16 := by
  intro k hk
  unfold evs at hk
  obtain ⟨a, ha, rfl⟩ := List.mem_map.mp hk
  have := List.mem_range.mp (List.mem_filter.mp ha).1
  omega
theorem ods_bd {n : Nat} (h : n ≤ 16) : ∀ k ∈ ods n, 0 ≤ k ∧ k < 16 := by
  intro k hk
  unfold ods at hk
  obtain ⟨a, ha, rfl⟩ := List.mem_map.mp hk
  have := List.mem_range.mp (List.mem_filter.mp ha).1
  omega
def evL : Nat → List Int
  | 0 => [0]
  | 1 => [0]
  | 2 => [0, 3]
  | 3 => [0, 3, 5, 6]
  | _ => [0, 3, 5, 6, 9, 10, 12, 15]
def odL : Nat → List Int
  | 0 => []
  | 1 => [1]
  | 2 => [1, 2]
  | 3 => [1, 2, 4, 7]
  | _ => [1, 2, 4, 7, 8, 11, 13, 14]
theorem evL_eq : ∀ p : Fin 5, evs (2 ^ p.val) = evL p.val ∧ ods (2 ^ p.val) = odL p.val := by decide +kernel
def pfac : Nat → Nat
  | 0 => 1
  | n + 1 => (n + 1) * pfac n
def adiff (x y : Nat) : Nat := if x < y then y - x else x - y
def pteB (p S V e : Nat) : Bool :=
  let x := ps S V e (evL p)
  let y := ps S V e (odL p)
  (!(decide (e < p)) || x == y) && (!(e == p) || (adiff x y == pfac p * S ^ p * 2 ^ (p * (p - 1) / 2) && (decide (x < y) == (p % 2 == 1)) && decide (0 < pfac p * S ^ p * 2 ^ (p * (p - 1) / 2))))
theorem pteB_all : ∀ (p : Fin 4) (S : Fin 5) (V : Fin 9) (e : Fin 5), pteB (p.val + 1) (S.val + 1) V.val e.val = true := by decide +kernel
theorem pte {p S V e : Nat} (hp : 1 ≤ p) (hp4 : p ≤ 4) (hS : 1 ≤ S) (hS5 : S ≤ 5) (hV : V ≤ 8) (he : e ≤ p) :
    (e < p → ps S V e (evs (2 ^ p)) = ps S V e (ods (2 ^ p))) ∧
    (e = p → (if ps S V e (evs (2 ^ p)) < ps S V e (ods (2 ^ p)) then ps S V e (ods (2 ^ p)) - ps S V e (evs (2 ^ p)) else ps S V e (evs (2 ^ p)) - ps S V e (ods (2 ^ p))) = pfac p * S ^ p * 2 ^ (p * (p - 1) / 2) ∧
      decide (ps S V e (evs (2 ^ p)) < ps S V e (ods (2 ^ p))) = (p % 2 == 1) ∧ 0 < pfac p * S ^ p * 2 ^ (p * (p - 1) / 2)) := by
  have h := pteB_all ⟨p - 1, by omega⟩ ⟨S - 1, by omega⟩ ⟨V, by omega⟩ ⟨e, by omega⟩
  have e1 := evL_eq ⟨p, by omega⟩
  dsimp only at h e1
  rw [e1.1, e1.2]
  rw [show p - 1 + 1 = p by omega, show S - 1 + 1 = S by omega] at h
  unfold pteB adiff at h
  simp only [Bool.and_eq_true, Bool.or_eq_true, Bool.not_eq_true', decide_eq_false_iff_not, decide_eq_true_eq, beq_iff_eq, beq_eq_false_iff_ne] at h
  obtain ⟨h1, h2⟩ := h
  refine ⟨fun q => ?_, fun q => ?_⟩
  · rcases h1 with h1 | h1
    · exact absurd q h1
    · exact h1
  · rcases h2 with h2 | h2
    · exact absurd q h2
    · exact ⟨h2.1.1, h2.1.2, h2.2⟩

theorem words_lawpre : True := by w_top off; k_with_none; trivial
def J2 (h₀ : Heap) (L : Addr) (sc : Value) (LA I : Addr) (ys : List Value) (c4 c3 c2 c1 : Addr) (o4 o3 o2 : Obj) (s s' : Shared) : Prop :=
  ∃ (W H : Int) (tw tH t2 : Tok) (k : Nat) (h' : Heap) (tk' : Nat) (o1 : Obj), 3 ≤ W ∧ W ≤ 8 ∧ 1 ≤ H ∧ H ≤ 4 ∧ s' = { s with heap := h', toks := tk' } ∧
    Fr h₀ L h' (mapOf [(Str.ofString "script", some sc), (Str.ofString "lane", some (.ref LA)), (Str.ofString "high", some (.int H tH))]) ∧
    News h₀ L h' [(LA, listOf [.int 2 t2, .ref I].toArray k), (I, LCg.lst ys), (c4, o4), (c3, o3), (c2, o2), (c1, o1)] ∧ o1.data = .cell (some (.int W tw))
theorem join2 {M : Model} {A : Around} {t : Sem Flow} {Q : Flow → Shared → Prop} {E : Value → Shared → Prop} {s : Shared} {h₀ h : Heap} {L LA I c4 c3 c2 c1 : Addr} {o4 o3 o2 o1 : Obj} {p : Addr × Obj} {ys : List Value} {t0 : Tok} {k : Nat} {sc : Value}
    (F : Fr h₀ L h (mapOf [(Str.ofString "script", some sc), (Str.ofString "lane", some (.ref LA))]))
    (N : News h₀ L h [(LA, listOf #[.int 0 t0, .ref I] k), (I, LCg.lst ys), p, (c4, o4), (c3, o3), (c2, o2), (c1, o1)])
    (a : Fr h₀ L h (mapOf [(Str.ofString "script", some sc), (Str.ofString "lane", some (.ref LA))]) → News h₀ L h [(LA, listOf #[.int 0 t0, .ref I] k), (I, LCg.lst ys), (c4, o4), (c3, o3), (c2, o2), (c1, o1)] → wpAny M A t (IfEnd (J2 h₀ L sc LA I ys c4 c3 c2 c1 o4 o3 o2 s)) E s)
    (b : ∀ s', J2 h₀ L sc LA I ys c4 c3 c2 c1 o4 o3 o2 s s' → Q .next s') : wpAny M A t Q E s := by
  refine wpAny_mono (a F (fun q hq => N q ?_)) (fun f s' q => ?_) fun _ _ x => x
  · simp only [List.mem_cons] at hq ⊢
    rcases hq with h | h | h | h | h | h | h <;> simp [h]
  · obtain ⟨rfl, q⟩ := q
    exact b s' q
theorem fm6 (x : Int) : 3 ≤ 3 + x.fmod 6 ∧ 3 + x.fmod 6 ≤ 8 := by have := Int.fmod_nonneg_of_pos x (by decide : (0 : Int) < 6); have := Int.fmod_lt_of_pos x (by decide : (0 : Int) < 6); omega
theorem fm4 (x : Int) : 1 ≤ 1 + x.fmod 4 ∧ 1 + x.fmod 4 ≤ 4 := by have := Int.fmod_nonneg_of_pos x (by decide : (0 : Int) < 4); have := Int.fmod_lt_of_pos x (by decide : (0 : Int) < 4); omega
theorem fm5 (x : Int) : 1 ≤ 1 + x.fmod 5 ∧ 1 + x.fmod 5 ≤ 5 := by have := Int.fmod_nonneg_of_pos x (by decide : (0 : Int) < 5); have := Int.fmod_lt_of_pos x (by decide : (0 : Int) < 5); omega
theorem fm9 (x : Int) : 0 ≤ x.fmod 9 ∧ x.fmod 9 ≤ 8 := by have := Int.fmod_nonneg_of_pos x (by decide : (0 : Int) < 9); have := Int.fmod_lt_of_pos x (by decide : (0 : Int) < 9); omega
theorem end2 {s s' : Shared} {h₀ h' : Heap} {L LA I c4 c3 c2 c1 : Addr} {o4 o3 o2 o1 : Obj} {p : Addr × Obj} {ys : List Value} {t2 tw tH : Tok} {k tk' : Nat} {sc : Value} {W H c : Int}
    (F : Fr h₀ L h' (mapOf [(Str.ofString "script", some sc), (Str.ofString "lane", some (.ref LA)), (Str.ofString "high", some (.int H tH))]))
    (N : News h₀ L h' [p, (LA, listOf #[.int c t2, .ref I] k), (I, LCg.lst ys), (c4, o4), (c3, o3), (c2, o2), (c1, o1)]) (hc : c = 2) (d : o1.data = .cell (some (.int W tw))) (b : 3 ≤ W ∧ W ≤ 8) (b' : 1 ≤ H ∧ H ≤ 4)
    (hs : s' = { s with heap := h', toks := tk' }) : IfEnd (J2 h₀ L sc LA I ys c4 c3 c2 c1 o4 o3 o2 s) .next s' := by
  subst hc
  exact ⟨rfl, W, H, tw, tH, t2, k, h', tk', o1, b.1, b.2, b'.1, b'.2, hs, F, fun q hq => N q (List.Mem.tail _ hq), d⟩
def J3 (h₀ : Heap) (L : Addr) (sc : Value) (LA : Addr) (H W : Int) (tH tw : Tok) (c4 c3 c2 c1 : Addr) (o4 o1 : Obj) (s s' : Shared) : Prop :=
  ∃ (S V : Int) (tS tV : Tok) (h' : Heap) (tk' : Nat) (o2 o3 : Obj), 1 ≤ S ∧ S ≤ 5 ∧ 0 ≤ V ∧ V ≤ 8 ∧ s' = { s with heap := h', toks := tk' } ∧
    Fr h₀ L h' (mapOf [(Str.ofString "script", some sc), (Str.ofString "lane", some (.ref LA)), (Str.ofString "high", some (.int H tH))]) ∧
    News h₀ L h' [(c4, o4), (c3, o3), (c2, o2), (c1, o1)] ∧ o2.data = .cell (some (.int S tS)) ∧ o3.data = .cell (some (.int V tV))
theorem join3 {M : Model} {A : Around} {t : Sem Flow} {Q : Flow → Shared → Prop} {E : Value → Shared → Prop} {s : Shared} {h₀ h : Heap} {L LA c4 c3 c2 c1 : Addr} {o4 o3 o2 o1 : Obj} {sc : Value} {H W : Int} {tH tw : Tok}
    {news : List (Addr × Obj)} (F : Fr h₀ L h (mapOf [(Str.ofString "script", some sc), (Str.ofString "lane", some (.ref LA)), (Str.ofString "high", some (.int H tH))]))
    (N : News h₀ L h (news ++ [(c4, o4), (c3, o3), (c2, o2), (c1, o1)])) (d : o1.data = .cell (some (.int W tw)))
    (a : wpAny M A t (IfEnd (J3 h₀ L sc LA H W tH tw c4 c3 c2 c1 o4 o1 s)) E s)
    (b : ∀ s', J3 h₀ L sc LA H W tH tw c4 c3 c2 c1 o4 o1 s s' → Q .next s') : wpAny M A t Q E s := by
  refine wpAny_mono a (fun f s' q => ?_) fun _ _ x => x
  obtain ⟨rfl, q⟩ := q
  exact b s' q
theorem end3 {s s' : Shared} {h₀ h' : Heap} {L LA c4 c3 c2 c1 : Addr} {o4 o3 o2 o1 : Obj} {p p' p'' : Addr × Obj} {tH tw tS tV : Tok} {tk' : Nat} {sc : Value} {W H S V : Int}
    (F : Fr h₀ L h' (mapOf [(Str.ofString "script", some sc), (Str.ofString "lane", some (.ref LA)), (Str.ofString "high", some (.int H tH))]))
    (N : News h₀ L h' [p, p', p'', (c4, o4), (c3, o3), (c2, o2), (c1, o1)]) (d2 : o2.data = .cell (some (.int S tS))) (d3 : o3.data = .cell (some (.int V tV))) (b : 1 ≤ S ∧ S ≤ 5) (b' : 0 ≤ V ∧ V ≤ 8)
    (hs : s' = { s with heap := h', toks := tk' }) : IfEnd (J3 h₀ L sc LA H W tH tw c4 c3 c2 c1 o4 o1 s) .next s' :=
  ⟨rfl, S, V, tS, tV, h', tk', o2, o3, b.1, b.2, b'.1, b'.2, hs, F, fun q hq => N q (List.Mem.tail _ (List.Mem.tail _ (List.Mem.tail _ hq))), d2, d3⟩
theorem Does.sides {w : World} {need : Nat} {f : Addr} {args : List Value} {h : Heap}
  {mean : ExcName → Option Value} {mg mb : Str → Option Value} {dp un : Nat} {gd : Option (List Code)} {cn : Str} {cs : Scope} {L a : Addr} {ccd : Value} {cl : List (Str × Addr)} {outer : List Env} {A₀ : Around} {base h₀ : Heap} {m : Str → Option Value}
    {gens : Array GenState} {drawn : Drawn} {tk : Nat} {os : OsState} {Q E : Value → Shared → Prop} {news : List (Addr × Obj)} {ev od : List Int} (C : Does w need f args h (IsNewSides h ev od)) (B : Below A₀ base outer h₀) (F : Fr h₀ L h m) (X : Frag.In (hd.heap_39 w.params) h₀) (N : News h₀ L h news) (T : Top VW LW mean mg mb h₀) (hk : cs.kind = .function) (hd : dp + need ≤ 900) (hu : un + 10 * need ≤ 9000)
    (go : ∀ q a b va vb k ka kb h' tk', Fr h₀ L h' m → News h₀ L h' ((q, listOf [.ref a, .ref b].toArray k) :: (a, listOf va.toArray ka) :: (b, listOf vb.toArray kb) :: news) → (∀ p ∈ news, p.1 ≠ q ∧ p.1 ≠ a ∧ p.1 ≠ b) → IntsAre va ev → IntsAre vb od → (∀ b o, h.get? b = some o → h'.get? b = some o) → Q (.ref q) ⟨h', gens, drawn, tk', os⟩) :
    wpAny (model PR w) (ktrTop dp un gd cn cs L a ccd cl outer) (call (.ref f) args) Q E ⟨h, gens, drawn, tk, os⟩ := by
  refine C _ _ _ _ _ _ _ _ _ _ _ _ _ _ _ _ _ _ _ _ _ _ _ B F X T hk hd hu ?_
  rintro r h' tk' e ⟨q, a, b, va, vb, k, ka, kb, rfl, h1, h2, h3, h4, h5, h6, h7, h8⟩
  have N1 := newsAdd F N e h5 h6
  have N2 := newsAdd F N e h3 h4
  have N3 := newsAdd F N e h1 h2
  refine go q a b va vb k ka kb h' tk' (F.after e) (fun p hp => ?_) (fun p hp => ⟨newsNe N h2 p hp, newsNe N h4 p hp, newsNe N h6 p hp⟩) h7 h8 e
  rcases List.mem_cons.mp hp with rfl | hp
  · exact N3 _ (List.Mem.head _)
  rcases List.mem_cons.mp hp with rfl | hp
  · exact N2 _ (List.Mem.head _)
  exact N1 p hp
set_option genSizeOf false
set_option genInjectivity false
structure MS where
  sides : Option Value
  sums : Option Value
  side : Option Value
  found : Option Value
  number : Option Value
  apart : Option Value
  due : Option Value
  whole : Option Value
  size : Option Value
  plain : Option Value
  o4 : Obj
abbrev mm0 (sc : Value) (LA : Addr) (H : Int) (tH : Tok) (c : MS) (u : Option Value) : List (Str × Option Value) :=
  [(Str.ofString "script", some sc), (Str.ofString "lane", some (.ref LA)), (Str.ofString "high", some (.int H tH)), (Str.ofString "most", u), (Str.ofString "sides", c.sides), (Str.ofString "sums", c.sums), (Str.ofString "side", c.side), (Str.ofString "found", c.found), (Str.ofString "number", c.number), (Str.ofString "apart", c.apart),
    (Str.ofString "due", c.due), (Str.ofString "whole", c.whole), (Str.ofString "size", c.size), (Str.ofString "plain", c.plain)]
structure SS where
  found : Option Value
  number : Option Value
  sv : List Value
  k : Nat
  ex : List (Addr × Obj)
structure NS where
  lf : Addr
  vf : List Value
  kf : Nat
  nf : List Int
inductive SOk (W : Nat) (tot : Nat → Nat) : Nat → List Value → List (Addr × Obj) → Prop
  | nil : SOk W tot 0 [] []
  | snoc {i : Nat} {sv : List Value} {ex : List (Addr × Obj)} {l : Addr} {v : List Value} {k : Nat} {n : List Int} : SOk W tot i sv ex → IntsAre v n → Canon W (tot i) n → SOk W tot (i + 1) (sv ++ [.ref l]) ((l, listOf v.toArray k) :: ex)
theorem SOk.len {W : Nat} {tot : Nat → Nat} {i : Nat} {sv : List Value} {ex : List (Addr × Obj)} (h : SOk W tot i sv ex) : sv.length = i := by
  induction h with
  | nil => rfl
  | snoc _ _ _ ih => simp [ih]
def sideOf (P i : Nat) : List Int := if i = 0 then evs P else ods P
theorem sideOf_bd {P : Nat} (h : P ≤ 16) (i : Nat) : ∀ k ∈ sideOf P i, 0 ≤ k ∧ k < 16 := by
  unfold sideOf; split
  · exact evs_bd h
  · exact ods_bd h
theorem sideOf_len {P : Nat} (h : P ≤ 16) (i : Nat) : (sideOf P i).length ≤ 16 := by
  unfold sideOf; split
  · exact Nat.le_trans (evs_len _) h
  · exact Nat.le_trans (ods_len _) h
theorem side_cases {la lb : Addr} {oa ob : List Value} {ka kb P i : Nat} {v : Value} (hv : [Value.ref la, Value.ref lb][i]? = some v) (i1 : IntsAre oa (evs P)) (i2 : IntsAre ob (ods P)) :
    ∃ ls vs ks, v = .ref ls ∧ IntsAre vs (sideOf P i) ∧ ((ls, listOf vs.toArray ks) = (la, listOf oa.toArray ka) ∨ (ls, listOf vs.toArray ks) = (lb, listOf ob.toArray kb)) := by
  match i, hv with
  | 0, hv => exact ⟨la, oa, ka, (Option.some.inj hv).symm, i1, .inl rfl⟩
  | 1, hv => exact ⟨lb, ob, kb, (Option.some.inj hv).symm, i2, .inr rfl⟩
theorem item_of {vs : List Value} {ns : List Int} {j : Nat} {v : Value} (h : IntsAre vs ns) (hb : ∀ k ∈ ns, 0 ≤ k ∧ k < 16) (hv : vs[j]? = some v) : ∃ (kn : Nat) (t : Tok), ns[j]? = some (kn : Int) ∧ v = .int kn t ∧ kn ≤ 15 := by
  have hj : j < ns.length := by rw [← h.length]; exact (List.getElem?_eq_some_iff.mp hv).1
  obtain ⟨t, ht⟩ := h.get j ns[j] (by simp [hj])
  have e : v = .int ns[j] t := by rw [ht] at hv; exact (Option.some.inj hv).symm
  have b := hb ns[j] (List.getElem_mem hj)
  refine ⟨ns[j].toNat, t, ?_, ?_, by omega⟩
  · rw [Int.toNat_of_nonneg b.1]; simp [hj]
  · rw [Int.toNat_of_nonneg b.1]; exact e
theorem allLt_mem {d : Addr} : ∀ {l : List (Addr × Obj)}, AllLt d l → ∀ p ∈ l, p.1 ≠ d
  | [], _, _, h => nomatch h
  | p :: r, h, q, hq => by
    rcases List.mem_cons.mp hq with rfl | hq
    · exact Nat.ne_of_lt h.1
    · exact allLt_mem h.2 q hq
def J4 (h₀ : Heap) (L : Addr) (sc : Value) (LA : Addr) (H : Int) (tH : Tok) (u : Option Value) (ms : MS) (led : List (Addr × Obj)) (b : Bool) (Z W : Nat) (s s' : Shared) : Prop :=
  ∃ (qd ld : Addr) (vd : List Value) (kd : Nat) (nd : List Int) (wh sz : Option Value) (h' : Heap) (tk' : Nat), s' = { s with heap := h', toks := tk' } ∧
    Fr h₀ L h' (mapOf (mm0 sc LA H tH ⟨ms.sides, ms.sums, ms.side, ms.found, ms.number, ms.apart, some (.ref qd), wh, sz, ms.plain, ms.o4⟩ u)) ∧
    News h₀ L h' ((qd, tupOf [.bool b, .ref ld]) :: (ld, listOf vd.toArray kd) :: led) ∧ IntsAre vd nd ∧ Canon W Z nd
theorem join4 {prog : Program} {w : World} {A : Around} {Q : Flow → Shared → Prop} {E : Value → Shared → Prop} {s : Shared} {env : Env} {c : Expr} {t e rest : List Stmt} {pos : Pos} {h₀ : Heap} {L : Addr} {sc : Value} {LA : Addr} {H : Int} {tH : Tok} {u : Option Value} (ms : MS) (led : List (Addr × Obj)) (b : Bool) (Z W : Nat)
    (F : Fr h₀ L s.heap (mapOf (mm0 sc LA H tH ms u)))
    (a : wpAny (model prog w) A (exec (.If c t e pos) env) (IfEnd (J4 h₀ L sc LA H tH u ms led b Z W s)) E s)
    (core : ∀ s', J4 h₀ L sc LA H tH u ms led b Z W s s' → wpAny (model prog w) A (execs rest env) Q E s') :
    wpAny (model prog w) A (execs (.If c t e pos :: rest) env) Q E s := if_join _ a core
theorem J4.mk {h₀ : Heap} {L : Addr} {sc : Value} {LA : Addr} {H : Int} {tH : Tok} {u : Option Value} {ms : MS} {led : List (Addr × Obj)} {b : Bool} {Z W : Nat} {s s' : Shared} (qd ld : Addr) (vd : List Value) (kd : Nat) (nd : List Int) (wh sz : Option Value) (h' : Heap) (tk' : Nat) (es : s' = { s with heap := h', toks := tk' })
    (F : Fr h₀ L h' (mapOf (mm0 sc LA H tH ⟨ms.sides, ms.sums, ms.side, ms.found, ms.number, ms.apart, some (.ref qd), wh, sz, ms.plain, ms.o4⟩ u)))
    (N : News h₀ L h' ((qd, tupOf [.bool b, .ref ld]) :: (ld, listOf vd.toArray kd) :: led)) (hi : IntsAre vd nd) (hc : Canon W Z nd) : IfEnd (J4 h₀ L sc LA H tH u ms led b Z W s) .next s' :=
  ⟨rfl, qd, ld, vd, kd, nd, wh, sz, h', tk', es, F, N, hi, hc⟩
theorem Does.more {w : World} {need need' : Nat} {f : Addr} {args : List Value} {h : Heap} {Post : Heap → Value → Prop} (C : Does w need f args h Post) (hn : need ≤ need') : Does w need' f args h Post := by
  intro mean mg mb dp un gd cn cs L a ccd cl outer A₀ base h₀ m gens drawn tk os Q E B F X T hk hd hu hret
  exact C _ _ _ _ _ _ _ _ _ _ _ _ _ _ _ _ _ _ _ _ _ _ _ B F X T hk (by omega) (by omega) hret
theorem fact_spec {w : World} {h : Heap} {p W : Nat} {tx tw : Tok} (hW3 : 3 ≤ W) (hW8 : W ≤ 8) (hp1 : 1 ≤ p) (hp4 : p ≤ 4) :
    Does w 18 161 [.int p tx, .int W tw, .ref 175] h (IsNewNat h W (pfac p)) := by
  have h1c : Canon W 1 [1] := Canon.small (by decide) (Nat.lt_of_lt_of_le (by decide : 1 < 2 ^ 3) (Nat.pow_le_pow_right (by decide) hW3))
  match p, hp1, hp4 with
  | 1, _, _ => exact (fact1_spec hW3 hW8 h1c).more (by decide)
  | 2, _, _ => exact (fact2_spec hW3 hW8 h1c).more (by decide)
  | 3, _, _ => exact (fact3_spec hW3 hW8 h1c).more (by decide)
  | 4, _, _ => exact (fact4_spec hW3 hW8 h1c).more (by decide)
theorem pfac_le : ∀ p : Fin 5, pfac p.val ≤ 24 := by decide
theorem powS_le {S p : Nat} (hS : S ≤ 5) (hp : p ≤ 4) : S ^ p ≤ 625 := Nat.le_trans (Nat.pow_le_pow_left hS p) (Nat.le_trans (Nat.pow_le_pow_right (by decide) hp) (by decide))
theorem tri_le : ∀ p : Fin 5, p.val * (p.val - 1) / 2 ≤ 6 := by decide
theorem tri_int : ∀ p : Fin 5, 1 ≤ p.val → ((p.val : Int) * ((p.val : Int) - 1)).fdiv 2 = ((p.val * (p.val - 1) / 2 : Nat) : Int) := by decide
theorem odd_int : ∀ p : Fin 5, ((p.val : Int).fmod 2 == 1) = (p.val % 2 == 1) := by decide
theorem pow_base {S V P : Nat} {k : Int} (hk : k ∈ evs P) (hP : P ≤ 16) (hS : S ≤ 5) (hV : V ≤ 8) : ((S : Int) * k + (V : Int)).natAbs < 2 ^ 64 := by
  have b := evs_bd hP k hk
  obtain ⟨n, rfl⟩ : ∃ n : Nat, k = n := ⟨k.toNat, by omega⟩
  have h1 : S * n ≤ 5 * 15 := Nat.mul_le_mul hS (by omega)
  rw [show (S : Int) * (n : Int) + (V : Int) = ((S * n + V : Nat) : Int) by simp, Int.natAbs_natCast]
  omega
theorem ps_sum {S V e : Nat} : ∀ {l : List Int}, (∀ k ∈ l, 0 ≤ k ∧ k < 16) → (l.map fun k => ((S : Int) * k + (V : Int)) ^ ((e : Int)).toNat).sum = ((ps S V e l : Nat) : Int)
  | [], _ => rfl
  | k :: l, h => by
    have ih := ps_sum (S := S) (V := V) (e := e) (l := l) (fun k hk => h k (.tail _ hk))
    have h0 := h k (.head _)
    have e1 : ps S V e (k :: l) = (S * k.toNat + V) ^ e + ps S V e l := by simp [ps]
    rw [List.map_cons, List.sum_cons, ih, e1, Int.toNat_natCast]
    obtain ⟨n, rfl⟩ : ∃ n : Nat, k = n := ⟨k.toNat, by omega⟩
    rw [Int.toNat_natCast]
    push_cast
    rfl
theorem ne_pair {prog : Program} {w : World} {A : Around} {E : Value → Shared → Prop} {s : Shared} {a a' la la' : Addr} {b : Bool} {vs vs' : List Value} {k k' : Nat} {ns : List Int} {Q : Value → Shared → Prop}
    (ha : s.heap.get? a = some (tupOf [.bool b, .ref la])) (hl : s.heap.get? la = some (listOf vs.toArray k)) (hi : IntsAre vs ns)
    (ha' : s.heap.get? a' = some (tupOf [.bool b, .ref la'])) (hl' : s.heap.get? la' = some (listOf vs'.toArray k')) (hi' : IntsAre vs' ns) (hu : A.units + 64 < cLine) (h : Q (.bool false) s) :
    wpAny (model prog w) A (compareOp .NotEq (.ref a) (.ref a')) Q E s := by
  have r1 := reads_newData (isListOf hl) (ke_carried hi)
  have r2 := reads_newData (isListOf hl') (ke_carried hi')
  refine ne_dataH (reads_tuple_at ha rfl rfl (ReadsAll.cons (Reads.bool _) (ReadsAll.cons r1 ReadsAll.nil))) (reads_tuple_at ha' rfl rfl (ReadsAll.cons (Reads.bool _) (ReadsAll.cons r2 ReadsAll.nil))) ?_ ?_ hu ?_
  · simp [SeqAt.shaped, PyData.canLay0, PyData.canLayAll0, PyData.depth, PyData.depthAll, ke_canLayAll0, ke_depthAll]
  · simp [SeqAt.shaped, PyData.canLay0, PyData.canLayAll0, PyData.depth, PyData.depthAll, ke_canLayAll0, ke_depthAll]
  · simp only [PyData.eqv, PyData.eqvAll, ked_eqvAll, decide_true, beq_self_eq_true, Bool.and_true, Bool.not_true]
    exact h
theorem limbs_canon {W n : Nat} (hW : 3 ≤ W) : Canon W n (limbs W n) := ⟨limbs_dig (by omega) n, limbs_val (by omega) n, limbs_top (by omega) n⟩
theorem limbs_len20 {W n : Nat} (hW : 3 ≤ W) (hn : n < 1073741824) : (limbs W n).length ≤ 20 := Nat.le_trans ((limbs_canon hW).len30 hW hn) (by decide)
theorem limbs_256 {W n : Nat} (hW : 3 ≤ W) (hW8 : W ≤ 8) : ∀ x ∈ limbs W n, 0 ≤ x ∧ x < 256 := dig256 hW8 (limbs_canon hW)
theorem ll_comp {w : World} {h : Heap} {k : Int} {W : Nat} {t tw : Tok} (hW3 : 3 ≤ W) (hW8 : W ≤ 8) (h0 : 0 ≤ k) (h1 : k < 1073741824) : Does w 1 231 [.int k t, .int W tw] h (IsNewInts h (limbs W k.toNat)) := by
  obtain ⟨n, rfl⟩ : ∃ n : Nat, k = n := ⟨k.toNat, by omega⟩
  rw [Int.toNat_natCast]
  intro mean mg mb dp un gd cn cs L a ccd cl outer A₀ base h₀ m gens drawn tk os Q E B F X T hk hd hu hret
  refine law_limbs_spec (n := n) hW3 hW8 (by omega) _ _ _ _ _ _ _ _ _ _ _ _ _ _ _ _ _ _ _ _ _ _ _ B F X T hk hd hu ?_
  rintro r h' tk' e ⟨ns, hc, hr⟩
  exact hret r h' tk' e (hc.eq (by omega) ▸ hr)
def rowOf (W : Nat) : List Int := (rangeKs 0 32).map fun k => ((limbs W k.toNat).map popc).sum.fmod 2
def rowL : List Int := (List.range 32).map fun n => ((par n : Nat) : Int)
theorem rowOf_eq {W : Nat} (hW3 : 3 ≤ W) (hW8 : W ≤ 8) : rowOf W = rowL := by
  unfold rowOf rowL rangeKs
  rw [List.map_map]
  apply List.map_congr_left
  intro n hn
  have h := List.mem_range.mp hn
  show ((limbs W (0 + (n : Int)).toNat).map popc).sum.fmod 2 = _
  rw [show (0 + (n : Int)).toNat = n by omega]
  exact par_canon hW3 hW8 h (limbs_canon hW3)
abbrev mm1 (sc : Value) (LA : Addr) (H : Int) (tH : Tok) (c : MS) (u sz row bg : Option Value) : List (Str × Option Value) :=
  [(Str.ofString "script", some sc), (Str.ofString "lane", some (.ref LA)), (Str.ofString "high", some (.int H tH)), (Str.ofString "most", u), (Str.ofString "sides", c.sides), (Str.ofString "sums", c.sums), (Str.ofString "side", c.side), (Str.ofString "found", c.found), (Str.ofString "number", c.number), (Str.ofString "apart", c.apart),
    (Str.ofString "due", c.due), (Str.ofString "whole", c.whole), (Str.ofString "size", sz), (Str.ofString "plain", c.plain), (Str.ofString "row", row), (Str.ofString "begin", bg)]
theorem row_fr {h₀ h : Heap} {L : Addr} {sc : Value} {LA : Addr} {H : Int} {tH : Tok} {c : MS} {u v : Option Value} (F : Fr h₀ L h (fun z => if z = Str.ofString "row" then v else mapOf (mm0 sc LA H tH c u) z)) : Fr h₀ L h (mapOf (mm1 sc LA H tH c u c.size v none)) := by
  have h1 := frPut (l' := mm0 sc LA H tH c u ++ [(Str.ofString "row", v)]) F (by with_unfolding_all rfl)
  rw [← mapOf_declare (Str.ofString "begin")] at h1
  exact h1
structure GoIf : Prop where
  t : True
theorem rowL_len : rowL.length = 32 := by decide
theorem row_item {prog : Program} {w : World} {A : Around} {E : Value → Shared → Prop} {s : Shared} {h₀ : Heap} {L D : Addr} {news : List (Addr × Obj)} {vs : List Value} {k : Int} {t : Tok} {value slice : PySem.Expr} {Q : Value → Shared → Prop}
    (N : News h₀ L s.heap news) (hm : (D, LCg.lst vs) ∈ news) (hi : IntsAre vs rowL) (h0 : 0 ≤ k) (h1 : k < 32) (h : ∀ t, Q (.int (rowL.getD k.toNat 0) t) s)
    (hs : subscripted slice false (.ref D) (.int k t) = operate [.ref D, .int k t] (getItem (.ref D) (.int k t)) := by with_unfolding_all rfl) (hg : ∀ r, letTemporaryGo value (.ref D) r = pure () := by intro _; with_unfolding_all rfl) :
    wpAny (model prog w) A (subscriptTail value slice (.ref D) (.int k t)) Q E s := by
  have hk : k.toNat < rowL.length := by rw [rowL_len]; omega
  obtain ⟨t', ht⟩ := hi.get k.toNat (rowL.getD k.toNat 0) (by rw [List.getD_eq_getElem?_getD, List.getElem?_eq_getElem hk]; rfl)
  exact item_listL ⟨_, (N _ hm).1, rfl, _, rfl⟩ h0 (Int.lt_trans h1 (by decide)) ht (h t') hs hg
def sqB (z i : Nat) : Bool := decide (z = 0) || decide (32 ≤ i + 2 * z) ||
  !(decide ((List.drop i rowL).take (min (i + z) 32 - i) = (List.drop (i + z) rowL).take (min (i + 2 * z) 32 - (i + z))) && decide (rowL.getD i 0 = rowL.getD (i + 2 * z) 0))
theorem sqB_all : ∀ (z : Fin 16) (i : Fin 32), sqB z.val i.val = true := by decide +kernel
theorem sq_free {z i : Nat} (hz : 1 ≤ z) (hz15 : z ≤ 15) (hi : i < 32 - 2 * z) (h1 : List.take (min ((i : Int) + (z : Int)).toNat rowL.length - (i : Int).toNat) (List.drop (i : Int).toNat rowL) = List.take (min ((i : Int) + 2 * (z : Int)).toNat rowL.length - ((i : Int) + (z : Int)).toNat) (List.drop ((i : Int) + (z : Int)).toNat rowL))
    (h2 : rowL.getD (i : Int).toNat 0 = rowL.getD ((i : Int) + 2 * (z : Int)).toNat 0) : False := by
  have h := sqB_all ⟨z, by omega⟩ ⟨i, by omega⟩
  rw [rowL_len, show ((i : Int) + (z : Int)).toNat = i + z by omega, show (i : Int).toNat = i by omega, show ((i : Int) + 2 * (z : Int)).toNat = i + 2 * z by omega] at h1
  rw [show (i : Int).toNat = i by omega, show ((i : Int) + 2 * (z : Int)).toNat = i + 2 * z by omega] at h2
  unfold sqB at h
  dsimp only at h
  rw [decide_eq_true h1, decide_eq_true h2, decide_eq_false (show ¬ z = 0 by omega), decide_eq_false (show ¬ 32 ≤ i + 2 * z by omega)] at h
  exact absurd h (by decide)
section
variable {α : Type} {a : α} {l m r : List α}
theorem sub_cons (h : a ∈ m) (t : ∀ z ∈ l, z ∈ m) : ∀ z ∈ a :: l, z ∈ m := fun z hz => by
  rcases List.mem_cons.mp hz with rfl | hz
  · exact h
  · exact t z hz
theorem sub_nil : ∀ z ∈ ([] : List α), z ∈ m := fun _ h => nomatch h
theorem sub_app (h : ∀ z ∈ l, z ∈ m) (t : ∀ z ∈ r, z ∈ m) : ∀ z ∈ l ++ r, z ∈ m := fun z hz => (List.mem_append.mp hz).elim (h z) (t z)
theorem sub_tail (h : ∀ z ∈ l, z ∈ m) : ∀ z ∈ l, z ∈ a :: m := fun z hz => .tail _ (h z hz)
theorem sub_left : ∀ z ∈ l, z ∈ l ++ r := fun z hz => List.mem_append_left _ hz
theorem sub_right (h : ∀ z ∈ l, z ∈ m) : ∀ z ∈ l, z ∈ r ++ m := fun z hz => List.mem_append_right _ (h z hz)
theorem sub_refl : ∀ z ∈ l, z ∈ l := fun _ hz => hz
theorem sub_assoc {x y z : List α} (h : ∀ u ∈ l, u ∈ x ++ (y ++ z)) : ∀ u ∈ l, u ∈ x ++ y ++ z := by rw [List.append_assoc]; exact h
end

theorem words_law : True := by w_top off; k_with_none; trivial
local macro_rules | `(tactic| walk_at "eval Name") => `(tactic| (k_here; (with_reducible show wpAny _ _ (eval (Expr.Name _ _) (envOfC _ _ _ _ _)) _ _ _); k_dflt (first
  | (refine' nameX_L ?F ?v ?_ ?a ?b; (case b => exact rfl); (case a => exact rfl); (case F => k_asm); (case v => exact rfl); k_whole)
  | (refine' nameX_C ?N ?c ?m ?d ?_ ?a ?b; (case b => exact rfl); (case a => exact rfl); (case N => k_asm); (case c => exact rfl); (case m => k_mem); (case d => k_asm); k_whole)
  | (refine' nameX_K ?F ?X ?T ?e ?_ ?a ?b; (case b => exact rfl); (case a => exact rfl); (case F => k_asm); (case X => k_asm); (case T => k_asm); (case e => k_is); k_whole)
  | (refine' nameX_B ?F ?X ?T ?e ?v ?n ?_ ?a ?b; (case b => exact rfl); (case a => exact rfl); (case F => k_asm); (case X => k_asm); (case T => k_asm); (case e => k_is); (case v => boot_fast); (case n => decide); k_whole))))
local macro_rules | `(tactic| walk_at "storeName") => `(tactic| (k_here; k_dflt (refine' stMX ?k1 ?k2 ?k3 ?_ ?k4 ?k5; (case k5 => exact rfl); (case k4 => exact rfl); (case k1 => k_asm); (case k2 => k_asm); (case k3 => walk_at "mine put"); k_whole); intro h' F' N'; (try k_sweep)))
local macro_rules | `(tactic| walk_at "call type:range") => `(tactic| ((with_reducible show wpAny _ _ (call (Value.type "range") _) _ _ _); (rename Fr _ _ _ _ => F'); (rename News _ _ _ _ => N'); first
  | (k_dflt (refine range1_rows F' N' ?_); intro _ _ _ _ _ _ _ _ _)
  | (k_dflt (refine range2_rows F' N' ?_); intro _ _ _ _ _ _ _ _ _)))
local macro_rules | `(tactic| walk_at "mine rest") => `(tactic| ((case k1 => k_asm); (case k2 => k_asm); (case k3 => k_asm); (case k4 => k_asm); (case k5 => k_asm); (case k6 => exact rfl); (case k7 => decide); (case k8 => decide)))
local macro_rules | `(tactic| walk_at "exec For Name Name cons nil") => `(tactic| (k_here; (with_reducible show wpAny _ _ (exec (Stmt.For (Expr.Name _ _) (Expr.Name _ _) _ _ _) _) _ _ _); (rename Fr _ _ _ _ => lF'); (refine' For_invVF lF' ?k1 ?k2 ?_; (case k1 => exact rfl); (case k2 => exact rfl); k_whole)))
local macro_rules | `(tactic| walk_at "binaryOp Pow int int") => `(tactic| ((with_reducible refine pow_int_small ?p1 ?p2 ?p3 ?_); (case p1 => omega); (case p2 => omega); (case p3 => exact pow_base (by assumption) (by assumption) (by omega) (by omega))))
local macro_rules | `(tactic| walk_at "call ref") => `(tactic| ((with_reducible show wpAny _ _ (call (Value.ref 231) _) _ _ _); (with_reducible rename InElt _ _ => cE'); k_dflt (refine' Does.list (ll_comp ?w3 ?w8 ?b0 ?b1) ?k1 ?k2 ?k3 ?k4 ?k5 ?k6 ?k7 ?k8 ?_; (case w3 => assumption); (case w8 => assumption); (case b0 => omega); (case b1 => omega); walk_at "mine rest"; k_whole); intro q' vs' n' h' tk' F' N' ne' hi' e'; (try dsimp only)))
local macro_rules | `(tactic| walk_at "call ref") => `(tactic| ((with_reducible show wpAny _ _ (call (Value.ref 26) _) _ _ _); (with_reducible rename InElt _ _ => cE'); k_dflt (refine' Does.int (nat_ones_spec ?l1 ?i1 ?b1 ?b2) ?k1 ?k2 ?k3 ?k4 ?k5 ?k6 ?k7 ?k8 ?_; (case l1 => exact newsList (by k_asm) (by k_mem)); (case i1 => assumption); (case b1 => exact limbs_len20 (by assumption) (by omega)); (case b2 => exact limbs_256 (by assumption) (by assumption)); walk_at "mine rest"; k_whole); intro t' h' tk' F' N' e'; (try dsimp only)))
local macro_rules | `(tactic| walk_at "subscriptTail Name Slice ref ref") => `(tactic| (k_here; (with_reducible show wpAny _ _ (subscriptTail _ (PySem.Expr.Slice _ _ none _) (Value.ref _) (Value.ref _)) _ _ _); (with_reducible rename IntsAre _ rowL => hRow); k_dflt (refine' kmk_slice_ints ?F ?N ?l ?p ?q hRow (kmk_run hRow ?m1 ?m2) ?c ?_ ?s ?t ?z; (case F => k_asm); (case N => k_asm); (case l => kmk_list); (case p => exact IsPart.int _ _); (case q => exact IsPart.int _ _); (case m1 => omega); (case m2 => omega); (case c => exact rfl); (case s => with_unfolding_all rfl); (case t => kmk_pure); (case z => exact kmk_sz hRow (by rw [rowL_len]; decide))); intro D' ws' h' F' N' l1 hI' hC' hL'; clear hC' hL'; (try k_lt l1); (try k_sweep)))
local macro_rules | `(tactic| walk_at "mine item") => `(tactic| (k_here; (with_reducible show wpAny _ _ (subscriptTail _ _ (Value.ref _) (Value.int _ _)) _ _ _); (with_reducible rename IntsAre _ rowL => hRow); k_dflt (refine' row_item ?N ?m hRow ?h0 ?h1 ?_ ?s ?t; (case N => k_asm); (case m => k_mem); (case h0 => omega); (case h1 => omega); (case s => with_unfolding_all rfl); (case t => kmk_pure)); intro t'; (try dsimp only)))
local macro_rules | `(tactic| walk_at "subscriptTail Name Name ref int") => `(tactic| walk_at "mine item")
local macro_rules | `(tactic| walk_at "subscriptTail Name BinOp ref int") => `(tactic| walk_at "mine item")
theorem words_lawlines_0 : True := by
  k_with "own eval Name" => ((k_here; (with_reducible show wpAny _ _ (eval (Expr.Name _ _) (compEnvC _ _ _ _)) _ _ _); k_dflt (first
  | refine LCgL.ld_own (by k_asm) (by k_mem) (by assumption) (by assumption) ?_
  | refine LCgL.ld_global (by k_asm) (by k_asm) (by k_asm) (by k_is) ?_)))
  k_with "own call ref" => (((first | (with_reducible show wpAny _ _ (call (Value.ref 238) _) _ _ _) | (with_reducible show wpAny _ _ (call (Value.ref 231) _) _ _ _) | (with_reducible show wpAny _ _ (call (Value.ref 168) _) _ _ _) | (with_reducible show wpAny _ _ (call (Value.ref 79) _) _ _ _) | (with_reducible show wpAny _ _ (call (Value.ref 203) _) _ _ _) | (with_reducible show wpAny _ _ (call (Value.ref 161) _) _ _ _) | (with_reducible show wpAny _ _ (call (Value.ref 210) _) _ _ _) | (with_reducible show wpAny _ _ (call (Value.ref 217) _) _ _ _) | (with_reducible show wpAny _ _ (call (Value.ref 26) _) _ _ _)); refine Stop.out ?_))
  k_with "own exec For Name Call cons nil" => ((k_here; (with_reducible show wpAny _ _ (exec (Stmt.For (Expr.Name (Str.ofString "exponent") _) _ _ _ _) _) _ _ _); (refine For_invTF (by k_asm) ?_ (by intro _; rfl))))
  k_with "mine sub" => (((repeat' first | (with_reducible exact sub_nil) | ((repeat' with_reducible first | exact sub_refl | exact sub_left | refine sub_assoc ?_ | refine sub_tail ?_ | refine sub_right ?_); done) | refine sub_cons (by first | k_mem | (simp only [List.mem_cons, List.mem_append, true_or, or_true]; done)) ?_ | refine sub_app ?_ ?_); done))
  k_with "own eval Name" => ((k_here; (first | (with_reducible show wpAny _ _ (eval (Expr.Name (Str.ofString "stretch") _) (compEnvC _ _ _ _)) _ _ _) | (with_reducible show wpAny _ _ (eval (Expr.Name (Str.ofString "move") _) (compEnvC _ _ _ _)) _ _ _) | (with_reducible show wpAny _ _ (eval (Expr.Name (Str.ofString "exponent") _) (compEnvC _ _ _ _)) _ _ _) | (with_reducible show wpAny _ _ (eval (Expr.Name (Str.ofString "w") _) (compEnvC _ _ _ _)) _ _ _)); k_dflt (refine kcf_cell (by k_asm) (by rfl) (by k_mem) (by k_asm) ?_)))
  trivial

set_option maxRecDepth 100000 in
set_option maxHeartbeats 8000000 in
theorem law_holds : PySem.Challenge.rw_xm0423_01.Holds := hd (by
  k_go0
  all_goals try k_fold
  rename CellsAre _ _ _ => X0
  clear X0
  change wpAny _ (ktrTop 302 7 (some []) _ _ _ _ _ _ []) _ _ _ _
  rename _ = Data.cell (bindC _ _ _ _) => c1
  have d1 : _ = Data.cell none := c1
  clear c1
  rename _ = Data.cell (bindC _ _ _ _) => c1
  have d2 : _ = Data.cell none := c1
  clear c1
  rename _ = Data.cell (bindC _ _ _ _) => c1
  have d3 : _ = Data.cell none := c1
  clear c1
  rename _ = Data.cell (bindC _ _ _ _) => c1
  have d4 : _ = Data.cell none := c1
  clear c1
  rename Fr _ _ _ _ => F
  have F2 : Fr _ _ _ (mapOf [(Str.ofString "script", some (Value.ref _))]) := F
  clear F
  k_with "exec Assign cons Tuple" => ((fail_if_success (have gg : Go := by assumption)); refine Stop.out ?_)
  k_steps
  unfold Stop
  rename News _ _ _ _ => N8
  rename Fr _ _ _ _ => F8
  refine join2 F8 N8 ?_ ?_
  · clear N8 F8
    intro F9 N9
    have gg : Go := ⟨trivial⟩
    k_steps
    all_goals (refine end2 (by assumption) (by assumption) rfl (by assumption) (fm6 _) (fm4 _) rfl)
  · rintro s' ⟨W, H, tw, tH, t2, k, h5, tk5, o1, hW3, hW8, hH1, hH4, rfl, F9, N9, dw⟩
    clear N8 F8
    (try dsimp only)
    k_steps
    unfold Stop
    refine join3 (news := [_, _]) F9 N9 dw ?_ ?_
    · skip
      have gg : Go := ⟨trivial⟩
      k_steps
      all_goals (refine end3 (by assumption) (by assumption) (by assumption) (by assumption) (fm5 _) (fm9 _) rfl)
    · rintro s' ⟨S, V, tS, tV, h6, tk6, o2, o3, hS1, hS5, hV0, hV8, rfl, F7, N7, dS, dV⟩
      clear F9 N9
      (try dsimp only)
      k_with "pyIter ref" => ((fail_if_success (have gg : Go := by assumption)); refine Stop.out ?_)
      k_steps
      unfold Stop
      rename IsRange _ _ _ _ _ _ _ _ => hR
      rename Fr _ _ _ _ => F
      rename News _ _ _ _ => N
      rw [← mapOf_nones [Str.ofString "most", Str.ofString "sides", Str.ofString "sums", Str.ofString "side", Str.ofString "found", Str.ofString "number", Str.ofString "apart", Str.ofString "due", Str.ofString "whole", Str.ofString "size", Str.ofString "plain"]] at F
      obtain ⟨Hn, rfl⟩ : ∃ Hn : Nat, H = Hn := ⟨H.toNat, by omega⟩
      obtain ⟨Wn, rfl⟩ : ∃ Wn : Nat, W = Wn := ⟨W.toNat, by omega⟩
      obtain ⟨Sn, rfl⟩ : ∃ Sn : Nat, S = Sn := ⟨S.toNat, by omega⟩
      obtain ⟨Vn, rfl⟩ : ∃ Vn : Nat, V = Vn := ⟨V.toNat, by omega⟩
      refine for_range_m (σ := MS) (n := Hn) (mm0 _ _ _ _) (fun c => [(_, c.o4), _, _, _]) (fun i c => ∃ v, c.o4.data = .cell v) ⟨none, none, none, none, none, none, none, none, none, none, _⟩ none (fun _ _ _ => by with_unfolding_all rfl) hR (small_one (by omega) (by omega) (by omega) (by omega)) (by rw [rangeSize_nat]; omega) F N ⟨_, by assumption⟩ ?_ ?_
      · clear F N
        intro i c t9 h9 tk9 own hi hoff hp F N
        obtain ⟨v4, d4⟩ := hp
        (try dsimp only at F N ⊢)
        obtain ⟨p, hpi⟩ : ∃ p : Nat, p = i + 1 := ⟨_, rfl⟩
        rw [show (1 : Int) + (i : Int) = (p : Int) by omega] at F
        have hp1 : 1 ≤ p := by omega
        have hp4 : p ≤ 4 := by omega
        have hp16 : 2 ^ p ≤ 16 := by
          have := Nat.pow_le_pow_right (by decide : 2 > 0) hp4
          omega
        have hW3' : 3 ≤ Wn := by omega
        have hW8' : Wn ≤ 8 := by omega
        obtain ⟨P, hPp⟩ : ∃ P : Nat, P = 2 ^ p := ⟨_, rfl⟩
        have hPi : (2 : Int) ^ p = (P : Int) := by rw [hPp]; simp
        rw [← hPp] at hp16
        k_steps
        unfold Stop
        rw [Int.toNat_natCast, hPi]
        refine Does.sides (lsides_spec hW3' hW8' hp16) (by k_asm) F (by k_asm) N (by k_asm) rfl (by decide) (by decide) ?_
        intro lq la lb va vb k9 ka kb h10 tk10 F10 N10 ne10 i1 i2 e10
        (try dsimp only)
        clear F N
        have le1 : (evs P).length ≤ 16 := Nat.le_trans (evs_len _) hp16
        have le2 : (ods P).length ≤ 16 := Nat.le_trans (ods_len _) hp16
        have kL1 := i1.length
        have kL2 := i2.length
        k_with "call type:list" => refine Stop.out ?_
        k_steps
        unfold Stop
        rename_i Ds vS nS cS hS F11 N11 iS eS pS oS bS p0S l1S h12 tk12 t12 u12 v12 hR12 F12 N12 e12
        rw [Int.toNat_natCast, hPi] at hR12
        have eS2 := sorted_sides hp4 (hPp ▸ pS) oS
        rw [← hPp] at eS2
        subst eS2
        refine kll_range (n := P) rfl F12 N12 hR12 (small_one (by omega) (by omega) (by omega) (by omega)) (by rw [rangeSize_nat]; omega) (Nat.le_trans hp16 (by decide)) ?_
        intro D13 us13 c13 h13 tk13 F13 N13 l13 i13
        clear F12 N12 F11 N11 hR12
        clear pS oS bS p0S eS
        generalize rangeKs 0 P = Rk at iS i13
        k_steps
        unfold Stop
        rename IsRange _ _ _ _ _ _ _ _ => hR14
        rename Fr _ _ _ _ => F14
        rename News _ _ _ _ => N14
        refine for_rangeT_m (σ := MS) (n := p + 1) (fun c' => mm0 _ _ _ _ c' (some (.int p t9))) (fun c' => (lq, listOf [.ref la, .ref lb].toArray k9) :: (la, listOf va.toArray ka) :: (lb, listOf vb.toArray kb) :: ([(_, c'.o4), (_, o3), (_, o2), (_, o1)] ++ own)) (fun i c' => c'.sides = some (.ref lq) ∧ ∃ v, c'.o4.data = .cell v)
          ⟨some (.ref lq), c.sums, c.side, c.found, c.number, c.apart, c.due, c.whole, c.size, c.plain, c.o4⟩ hR14 (small_one (by omega) (by omega) (by omega) (by omega)) (by rw [rangeSize_nat]; omega) F14 (N14.perm (fun q hq => .tail _ (.tail _ (.tail _ hq)))) ⟨rfl, _, d4⟩ (fun _ _ => rfl) ?_ ?_
        · skip
          w_top off
          clear F14 N14
          rename Shared => zs
          intro ex c' t15 s15 own15 hex hoff15 hadr15 hp15 F15 N15
          obtain ⟨sd, sm, si, fo, nu, ap, du, wh, sz, pl, o15⟩ := c'
          obtain ⟨h15, gens15, drawn15, tk15, os15⟩ := s15
          obtain ⟨hs15, v15, d15⟩ := hp15
          dsimp only at hs15 d15 F15 N15 ⊢
          subst hs15
          rw [Int.zero_add]
          walk1
          simp only [List.cons_append, List.nil_append] at N15
          have n4 := ne10 _ (List.Mem.head _)
          simp only [List.map_cons, List.map_nil] at hoff
          refine storeX_C F15 N15 rfl (.tail (Ne.symm n4.1) (.tail (Ne.symm n4.2.1) (.tail (Ne.symm n4.2.2) (.head ?off)))) d15 ?_ rfl rfl
          case off =>
            intro q hq
            rcases List.mem_cons.mp hq with rfl | hq
            · exact Nat.ne_of_lt (Nat.lt_succ_self _)
            rcases List.mem_cons.mp hq with rfl | hq
            · exact Nat.ne_of_lt (Nat.lt_succ_of_lt (Nat.lt_succ_self _))
            rcases List.mem_cons.mp hq with rfl | hq
            · exact Nat.ne_of_lt (Nat.lt_succ_of_lt (Nat.lt_succ_of_lt (Nat.lt_succ_self _)))
            rcases List.mem_append.mp hq with hq | hq
            · exact hoff q hq _ (List.Mem.head _)
            · exact hoff15 q hq _ (by simp)
          intro h16 o16 F16 N16 d16
          (try dsimp only at N16)
          clear F15 N15
          k_steps
          unfold Stop
          rename Fr _ _ _ _ => F17
          rename News _ _ _ _ => N17
          rename_i lsum h17a l17 h17b
          (try dsimp only at F17)
          (try simp only [List.append_assoc] at N17)
          refine for_vals_m (σ := SS) (fun c' u' => mm0 _ _ _ _ ⟨some (.ref lq), some (.ref lsum), u', c'.found, c'.number, ap, du, wh, sz, pl, o16⟩ (some (.int p t9)))
            (fun c' => (lsum, listOf c'.sv.toArray c'.k) :: (lq, listOf [.ref la, .ref lb].toArray k9) :: (la, listOf va.toArray ka) :: (lb, listOf vb.toArray kb) :: (zs.heap.objs.size + 1 + 1 + 1 + 1, o16) :: (zs.heap.objs.size + 1 + 1 + 1, o3) :: (zs.heap.objs.size + 1 + 1, o2) :: (zs.heap.objs.size + 1, o1) :: (own ++ (own15 ++ c'.ex)))
            (fun i c' => SOk Wn (fun i => ps Sn Vn ex (sideOf P i)) i c'.sv c'.ex ∧ ∀ z ∈ c'.ex, z.1 ≠ lsum) ⟨fo, nu, [], 0, []⟩ si (fun _ _ _ => by with_unfolding_all rfl) (fun _ => by k_mem) F17 ?N17 ⟨.nil, fun _ h => nomatch h⟩ ?_ ?_
          case N17 => simpa only [List.append_nil] using N17
          · skip
            clear F17 N17
            intro i18 c18 v18 h18 tk18 own18 hv18 hi18 hoff18 hp18 F18 N18
            obtain ⟨fo, nu, sv, ksv, exx⟩ := c18
            obtain ⟨ls, vsd, ksd, rfl, hsd, hmem⟩ := side_cases (ka := ka) (kb := kb) hv18 i1 i2
            dsimp only at hp18 F18 N18 hoff18 ⊢
            simp only [List.cons_append, List.append_assoc] at N18
            k_steps
            unfold Stop
            rename Fr _ _ _ _ => F19
            rename News _ _ _ _ => N19
            rename_i lf19 h19a l19 h19b
            (try dsimp only at F19)
            have hbd := sideOf_bd hp16 i18
            have hln := sideOf_len hp16 i18
            refine for_vals_m (σ := NS) (fun c' u' => mm0 _ _ _ _ ⟨some (.ref lq), some (.ref lsum), some (.ref ls), some (.ref c'.lf), u', ap, du, wh, sz, pl, o16⟩ (some (.int p t9)))
              (fun c' => (c'.lf, listOf c'.vf.toArray c'.kf) :: (lsum, listOf sv.toArray ksv) :: (lq, listOf [.ref la, .ref lb].toArray k9) :: (la, listOf va.toArray ka) :: (lb, listOf vb.toArray kb) :: (zs.heap.objs.size + 1 + 1 + 1 + 1, o16) :: (zs.heap.objs.size + 1 + 1 + 1, o3) :: (zs.heap.objs.size + 1 + 1, o2) :: (zs.heap.objs.size + 1, o1) :: (own ++ (own15 ++ (exx ++ own18))))
              (fun j c' => IntsAre c'.vf c'.nf ∧ Canon Wn (ps Sn Vn ex ((sideOf P i18).take j)) c'.nf ∧ c'.lf ≠ lsum) ⟨lf19, [], 0, []⟩ nu (fun _ _ _ => by with_unfolding_all rfl) (fun _ => by rcases hmem with e | e <;> (rw [e]; k_mem)) F19 N19 ⟨.nil, Canon.nil, Nat.ne_of_gt l19.1⟩ ?_ ?_
            · skip
              clear F19 N19
              intro j20 c20 v20 h20 tk20 own20 hv20 hj20 hoff20 hp20 F20 N20
              obtain ⟨lf, vf, kf, nf⟩ := c20
              obtain ⟨hvf, hcf, hnf⟩ := hp20
              dsimp only at hvf hcf hnf F20 N20 hoff20 ⊢
              simp only [List.cons_append, List.append_assoc] at N20
              obtain ⟨kn, t20, hkn, rfl, hk15⟩ := item_of hsd hbd hv20
              k_steps
              unfold Stop
              rw [show (Sn : Int) * (kn : Int) + (Vn : Int) = ((Sn * kn + Vn : Nat) : Int) by simp]
              have hb20 : Sn * kn + Vn ≤ 100 := by have := Nat.mul_le_mul (show Sn ≤ 5 by omega) hk15; omega
              have hs20 := ps_small (S := Sn) (V := Vn) (e := ex) (by omega) (by omega) (by omega) hbd hln j20
              have ht20 := term_le (S := Sn) (V := Vn) (e := ex) (by omega) (by omega) (by omega) hk15
              refine Does.nat (law_limbs_spec hW3' hW8' (by omega)) (by k_asm) F20 (by k_asm) N20 (by k_asm) rfl (by decide) (by decide) ?_
              intro q1 v1 k1 n1 h21 tk21 F21 N21 ne21 hi21 hc21 e21
              clear F20 N20
              (try dsimp only)
              k_steps
              unfold Stop
              refine Does.nat (power_spec hW3' hW8' (newsList N21 (List.Mem.head _)) hi21 hc21 hb20 (show ex ≤ 4 by omega)) (by k_asm) F21 (by k_asm) N21 (by k_asm) rfl (by decide) (by decide) ?_
              intro q2 v2 k2 n2 h22 tk22 F22 N22 ne22 hi22 hc22 e22
              clear F21 N21
              (try dsimp only)
              k_steps
              unfold Stop
              refine Does.nat (add_spec hW3' hW8' (newsList N22 (.tail _ (.tail _ (.head _)))) hvf hcf (newsList N22 (.head _)) hi22 hc22 hs20 (by omega)) (by k_asm) F22 (by k_asm) N22 (by k_asm) rfl (by decide) (by decide) ?_
              intro q3 v3 k3 n3 h23 tk23 F23 N23 ne23 hi23 hc23 e23
              clear F22 N22
              (try dsimp only)
              k_steps
              rename Fr _ _ _ _ => F24
              rename News _ _ _ _ => N24
              refine ⟨rfl, ⟨q3, v3, k3, n3⟩, _, _, _, _, rfl, F24, N24, ?_, ?_, ?_, hi23, ?_, Ne.symm (ne23 _ (.tail _ (.tail _ (.tail _ (.head _)))))⟩
              · walk_at "mine sub"
              · walk_at "mine sub"
              · intro z hz
                rcases List.mem_cons.mp hz with rfl | hz
                · exact .inr (by k_cls)
                · exact .inl (List.mem_map_of_mem (List.mem_cons_of_mem _ hz))
              · show Canon Wn (ps Sn Vn ex ((sideOf P i18).take (j20 + 1))) n3
                rw [ps_take hkn, Int.toNat_natCast]
                exact hc23
            · skip
              clear F19 N19
              intro c25 u25 h25 tk25 hp25 F25 N25
              obtain ⟨lf, vf, kf, nf⟩ := c25
              obtain ⟨hvf, hcf, hnf⟩ := hp25
              dsimp only at hvf hcf hnf F25 N25 ⊢
              rw [hsd.length, List.take_length] at hcf
              have hsv := hp18.1.len
              k_with "call builtin:list.append" => refine Stop.out ?_
              k_steps
              unfold Stop
              rename Fr _ _ _ _ => F26
              rename News _ _ _ _ => N26
              have hoffz : ∀ z ∈ own18, z.1 ≠ lsum := fun z hz => hoff18 z hz _ (List.Mem.head _)
              refine append_K F26 N26 (.tail hnf (.head ?off2)) ?_ (by simp only [List.size_toArray, hsv]; size_fits)
              case off2 =>
                obtain ⟨g1, g2, g3, g4, g5, g6, g7, g8⟩ := l17
                intro z hz
                simp only [List.mem_cons, List.mem_append] at hz
                rcases hz with rfl | rfl | rfl | rfl | rfl | rfl | rfl | hz | hz | hz | hz
                · exact Nat.ne_of_lt g1
                · exact Nat.ne_of_lt g2
                · exact Nat.ne_of_lt g3
                · exact Nat.ne_of_lt g4
                · exact Nat.ne_of_lt g5
                · exact Nat.ne_of_lt g6
                · exact Nat.ne_of_lt g7
                · exact allLt_mem g8 z (List.mem_append_left _ hz)
                · exact allLt_mem g8 z (List.mem_append_right _ hz)
                · exact hp18.2 z hz
                · exact hoffz z hz
              intro h27 F27 N27
              simp only [List.push_toArray] at N27
              k_steps
              refine ⟨rfl, ⟨some (.ref lf), u25, sv ++ [.ref lf], ksv + 1, (lf, listOf vf.toArray kf) :: exx⟩, some (.ref ls), _, _, _, rfl, F27, N27, ?_, ?_, ?_, hp18.1.snoc hvf hcf, ?_⟩
              · walk_at "mine sub"
              · walk_at "mine sub"
              · intro z hz
                simp only [List.mem_cons, List.mem_append] at hz
                rcases hz with hz | hz | hz | hz | hz | hz | hz | hz | hz | hz | hz | hz
                all_goals first
                  | (refine .inl (List.mem_map.mpr ⟨z, ?_, rfl⟩); simp only [List.mem_cons, List.mem_append, hz, true_or, or_true]; done)
                  | (subst hz; exact .inl (List.mem_map.mpr ⟨_, List.Mem.head _, rfl⟩))
                  | (subst hz; exact .inr (by k_cls))
              · intro z hz
                rcases List.mem_cons.mp hz with rfl | hz
                · exact hnf
                · exact hp18.2 z hz
          · skip
            clear F17 N17
            intro c28 u28 h28 tk28 hp28 F28 N28
            obtain ⟨fo, nu, sv, ksv, exx⟩ := c28
            dsimp only at hp28 F28 N28 ⊢
            have hp29 : SOk Wn (fun i => ps Sn Vn ex (sideOf P i)) 2 sv exx := hp28.1
            clear hp28
            cases hp29 with | @snoc _ sv1 ex1 s1 y1 k1 m1 hp30 hy1 hm1 =>
            cases hp30 with | @snoc _ sv0 ex0 s0 y0 k0 m0 hp31 hy0 hm0 =>
            cases hp31
            have hm1 : Canon Wn (ps Sn Vn ex (ods P)) m1 := hm1
            have hm0 : Canon Wn (ps Sn Vn ex (evs P)) m0 := hm0
            simp only [List.nil_append, List.cons_append] at N28
            have N29 := N28.perm (show ∀ z ∈ (s1, listOf y1.toArray k1) :: (s0, listOf y0.toArray k0) :: (lsum, listOf [.ref s0, .ref s1].toArray ksv) :: (lq, listOf [.ref la, .ref lb].toArray k9) :: (la, listOf va.toArray ka) :: (lb, listOf vb.toArray kb) :: (zs.heap.objs.size + 1 + 1 + 1 + 1, o16) :: (zs.heap.objs.size + 1 + 1 + 1, o3) :: (zs.heap.objs.size + 1 + 1, o2) :: (zs.heap.objs.size + 1, o1) :: (own ++ own15), z ∈ _ from by walk_at "mine sub")
            clear N28
            have hx0 := ps_small (S := Sn) (V := Vn) (e := ex) (by omega) (by omega) (by omega) (evs_bd hp16) le1 (evs P).length
            have hx1 := ps_small (S := Sn) (V := Vn) (e := ex) (by omega) (by omega) (by omega) (ods_bd hp16) le2 (ods P).length
            rw [List.take_length] at hx0 hx1
            obtain ⟨pt1, pt2⟩ := pte (p := p) (S := Sn) (V := Vn) (e := ex) hp1 hp4 (by omega) (by omega) (by omega) (by omega)
            rw [← hPp] at pt1 pt2
            obtain ⟨X, hX⟩ : ∃ X, X = ps Sn Vn ex (evs P) := ⟨_, rfl⟩
            obtain ⟨Y, hY⟩ : ∃ Y, Y = ps Sn Vn ex (ods P) := ⟨_, rfl⟩
            rw [← hX] at hm0 hx0 pt1 pt2
            rw [← hY] at hm1 hx1 pt1 pt2
            k_steps
            unfold Stop
            rename Fr _ _ _ _ => F30
            rename News _ _ _ _ => N30
            refine Does.sgn (s_sub_spec hW3' hW8' (tupNews N30 (.tail _ (.head _))) (newsList N30 (.tail _ (.tail _ (.tail _ (.head _))))) hy0 hm0 (tupNews N30 (.head _)) (newsList N30 (.tail _ (.tail _ (.head _)))) hy1 hm1 hx0 hx1) (by k_asm) F30 (by k_asm) N30 (by k_asm) rfl (by decide) (by decide) ?_
            intro qap lap vap kap nap h31 tk31 F31 N31 nq31 nl31 hiap hcap e31
            clear F30 N30
            (try dsimp only)
            k_steps
            unfold Stop
            have gg : Go := ⟨trivial⟩
            have gi : GoIf := ⟨trivial⟩
            k_with "execs cons If" => ((with_reducible rename GoIf => gi); refine Stop.out ?_)
            k_steps
            unfold Stop
            rename Fr _ _ _ _ => F32
            rename News _ _ _ _ => N32
            rename_i ld0 h32a l32a qd0 h32b l32b h32c
            refine join4 ⟨some (.ref lq), some (.ref lsum), u28, fo, nu, some (.ref qap), some (.ref qd0), wh, sz, pl, o16⟩
              ((qap, tupOf [.bool (decide (X < Y)), .ref lap]) :: (lap, listOf vap.toArray kap) :: (s1, listOf y1.toArray k1) :: (s0, listOf y0.toArray k0) :: (lsum, listOf [.ref s0, .ref s1].toArray ksv) :: (lq, listOf [.ref la, .ref lb].toArray k9) :: (la, listOf va.toArray ka) :: (lb, listOf vb.toArray kb) :: (zs.heap.objs.size + 1 + 1 + 1 + 1, o16) :: (zs.heap.objs.size + 1 + 1 + 1, o3) :: (zs.heap.objs.size + 1 + 1, o2) :: (zs.heap.objs.size + 1, o1) :: (own ++ own15))
              (decide (X < Y)) (if X < Y then Y - X else X - Y) Wn F32 ?_ ?_
            · skip
              (try dsimp only at F32)
              have N33 := N32.perm (show ∀ z ∈ (qd0, tupOf [.bool false, .ref ld0]) :: (ld0, listOf [].toArray 0) :: (qap, tupOf [.bool (decide (X < Y)), .ref lap]) :: (lap, listOf vap.toArray kap) :: (s1, listOf y1.toArray k1) :: (s0, listOf y0.toArray k0) :: (lsum, listOf [.ref s0, .ref s1].toArray ksv) :: (lq, listOf [.ref la, .ref lb].toArray k9) :: (la, listOf va.toArray ka) :: (lb, listOf vb.toArray kb) :: (zs.heap.objs.size + 1 + 1 + 1 + 1, o16) :: (zs.heap.objs.size + 1 + 1 + 1, o3) :: (zs.heap.objs.size + 1 + 1, o2) :: (zs.heap.objs.size + 1, o1) :: (own ++ own15), z ∈ _ from by walk_at "mine sub")
              clear N32
              refine wpAny_If ?_
              k_steps
              · unfold Stop
                rename (ex : Int) = (p : Int) => heq
                have he : ex = p := by omega
                obtain ⟨pt3, pt4, pt5⟩ := pt2 he
                have hfc := pfac_le ⟨p, by omega⟩
                have hpw := powS_le (S := Sn) (p := p) (by omega) hp4
                have htr := tri_le ⟨p, by omega⟩
                dsimp only at hfc htr
                have hmu : pfac p * Sn ^ p ≤ 24 * 625 := Nat.mul_le_mul hfc hpw
                have hsh : pfac p * Sn ^ p * 2 ^ (p * (p - 1) / 2) ≤ 24 * 625 * 2 ^ 6 := Nat.mul_le_mul hmu (Nat.pow_le_pow_right (by decide) htr)
                refine Does.nat (fact_spec hW3' hW8' hp1 hp4) (by k_asm) F32 (by k_asm) N33 (by k_asm) rfl (by decide) (by decide) ?_
                intro qf vf kf nf h34 tk34 F34 N34 ne34 hif hcf e34
                clear F32 N33
                (try dsimp only)
                k_steps
                unfold Stop
                rename Fr _ _ _ _ => F35
                rename News _ _ _ _ => N35
                refine Does.nat (law_limbs_spec (n := Sn) hW3' hW8' (by omega)) (by k_asm) F35 (by k_asm) N35 (by k_asm) rfl (by decide) (by decide) ?_
                intro q1 v1 k1' n1 h36 tk36 F36 N36 ne36 hi36 hc36 e36
                clear F35 N35
                (try dsimp only)
                k_steps
                unfold Stop
                refine Does.nat (power_spec (n := p) hW3' hW8' (newsList N36 (.head _)) hi36 hc36 (by omega) hp4) (by k_asm) F36 (by k_asm) N36 (by k_asm) rfl (by decide) (by decide) ?_
                intro q2 v2 k2 n2 h37 tk37 F37 N37 ne37 hi37 hc37 e37
                clear F36 N36
                (try dsimp only)
                k_steps
                unfold Stop
                rename Fr _ _ _ _ => F38
                rename News _ _ _ _ => N38
                refine Does.sgn (s_mul_spec hW3' hW8' (tupNews N38 (.tail _ (.tail _ (.tail _ (.head _))))) (newsList N38 (.tail _ (.tail _ (.tail _ (.tail _ (.head _)))))) hif hcf (tupNews N38 (.head _)) (newsList N38 (.tail _ (.head _))) hi37 hc37 (by omega) (by omega) (by omega)) (by k_asm) F38 (by k_asm) N38 (by k_asm) rfl (by decide) (by decide) ?_
                intro qm lm vm km nm h39 tk39 F39 N39 nq39 nl39 him hcm e39
                clear F38 N38
                (try dsimp only)
                k_steps
                unfold Stop
                rename Fr _ _ _ _ => F40
                rename News _ _ _ _ => N40
                have od := odd_int ⟨p, by omega⟩
                have tr := tri_int ⟨p, by omega⟩ hp1
                dsimp only at od tr
                rw [od] at N40
                rw [tr]
                refine Does.sgn (s_shift_spec (n := p * (p - 1) / 2) hW3' hW8' (tupNews N40 (.head _)) (newsList N40 (.tail _ (.tail _ (.head _)))) him hcm (by omega) htr (by omega)) (by k_asm) F40 (by k_asm) N40 (by k_asm) rfl (by decide) (by decide) ?_
                intro qd ld vd kd nd h41 tk41 F41 N41 nq41 nl41 hid hcd e41
                clear F40 N40
                (try dsimp only)
                k_steps
                rename Fr _ _ _ _ => F42
                rename News _ _ _ _ => N42
                have g1 : ((p % 2 == 1) && decide (0 < pfac p * Sn ^ p * 2 ^ (p * (p - 1) / 2))) = decide (X < Y) := by rw [pt4, decide_eq_true pt5, Bool.and_true]
                rw [g1] at N42
                rw [pt3]
                refine J4.mk qd ld vd kd nd _ _ _ _ rfl F42 (N42.perm ?_) hid hcd
                walk_at "mine sub"
              · rename (ex : Int) ≠ (p : Int) => heq
                have hX0 : X = Y := pt1 (by omega)
                have g1 : decide (X < Y) = false := by rw [hX0]; simp
                have g2 : (if X < Y then Y - X else X - Y) = 0 := by rw [hX0]; simp
                rw [g1] at N33
                rw [g1, g2]
                exact J4.mk qd0 ld0 [] 0 [] wh sz _ _ rfl F32 N33 .nil Canon.nil
            · skip
              clear F32 N32
              rintro s43 ⟨qd, ld, vd, kd, nd, wh, sz, h43, tk43, rfl, F43, N43, hid, hcd⟩
              (try dsimp only at F43 N43 ⊢)
              k_with "call builtin:sum" => refine Stop.out ?_
              k_steps
              unfold Stop
              rename Fr _ _ _ _ => F44
              rename News _ _ _ _ => N44
              rename IntsAre _ (List.map _ _) => hI44
              refine sumK rfl F44 N44 ⟨_, (N44 _ (List.Mem.head _)).1, rfl, _, rfl⟩ hI44 ?_
              intro h45 tk45 t45 F45 N45
              rw [ps_sum (evs_bd hp16), ← hX]
              clear F44 N44
              (try dsimp only)
              k_steps
              unfold Stop
              have en := Canon.unique (by omega) hcap hcd
              subst en
              refine wpAny_execs_cons ?_
              k_with "compareOp NotEq ref ref" => refine Stop.out ?_
              refine wpAny_If ?_
              iterate 4 walk1
              rename Fr _ _ _ _ => F46
              rename News _ _ _ _ => N46
              refine ne_pair (N46 _ (.tail _ (.tail _ (.tail _ (.head _))))).1 (N46 _ (.tail _ (.tail _ (.tail _ (.tail _ (.head _)))))).1 hiap (N46 _ (.tail _ (.head _))).1 (N46 _ (.tail _ (.tail _ (.head _)))).1 hid (by ke_room) ?_
              k_steps
              unfold Stop
              refine Does.nat (law_limbs_spec (n := X) hW3' hW8' hx0) (by k_asm) F46 (by k_asm) N46 (by k_asm) rfl (by decide) (by decide) ?_
              intro q1 v1 k1' n1 h47 tk47 F47 N47 ne47 hi47 hc47 e47
              clear F46 N46
              have en := Canon.unique (by omega) hm0 hc47
              subst en
              (try dsimp only)
              k_steps
              refine ⟨rfl, ⟨some (.ref lq), some (.ref lsum), u28, fo, nu, some (.ref qap), some (.ref qd), wh, sz, some (.int X t45), o16⟩, _, _, _, rfl, F47, N47, ?_, ?_, rfl, rfl, _, d16⟩
              · walk_at "mine sub"
              · walk_at "mine sub"
        · clear F14 N14
          rintro ⟨sd, sm, si, fo, nu, ap, du, wh, sz, pl, o15⟩ h15 tk15 ⟨hs15, v15, d15⟩ F15 N15
          dsimp only at hs15 d15 F15 N15 ⊢
          subst hs15
          k_steps
          exact ⟨⟨some (.ref lq), sm, si, fo, nu, ap, du, wh, sz, pl, o15⟩, _, _, _, _, rfl, F15, N15, fun q hq => .tail _ (.tail _ (.tail _ (List.mem_append_left _ hq))), fun q hq => .tail _ (.tail _ (.tail _ (List.mem_append_right _ hq))), rfl, _, d15⟩
      · clear F N
        intro c u h9 tk9 hp F N
        obtain ⟨v4, d4⟩ := hp
        (try dsimp only)
        w_top off
        have hW3' : 3 ≤ Wn := by omega
        have hW8' : Wn ≤ 8 := by omega
        k_steps
        unfold Stop
        rename IsRange _ _ _ _ _ _ _ _ => hR50
        rename Fr _ _ _ _ => F50
        rename News _ _ _ _ => N50
        rename IntsAre _ (List.map _ _) => hI50
        change IntsAre _ (rowOf Wn) at hI50
        rw [rowOf_eq hW3' hW8'] at hI50
        have F51 := row_fr F50
        clear F50
        refine for_range_m (σ := Option Value) (n := 15) (fun b s => mm1 _ _ _ _ c u s _ b) (fun _ => _) (fun _ _ => True) none c.size (fun _ _ _ => by with_unfolding_all rfl) hR50 (small_one (by omega) (by omega) (by omega) (by omega)) (by decide) F51 N50 trivial ?_ ?_
        · clear F51 N50
          intro i52 b52 t52 h52 tk52 own52 hi52 hoff52 _ F52 N52
          (try dsimp only at F52 N52 ⊢)
          obtain ⟨z, hz⟩ : ∃ z : Nat, z = i52 + 1 := ⟨_, rfl⟩
          rw [show (1 : Int) + (i52 : Int) = (z : Int) by omega] at F52
          k_steps
          unfold Stop
          rename IsRange _ _ _ _ _ _ _ _ => hR53
          rename Fr _ _ _ _ => F53
          rename News _ _ _ _ => N53
          refine for_range_m (σ := Unit) (n := 32 - 2 * z) (fun _ b => mm1 _ _ _ _ c u (some (.int (z : Int) _)) _ b) (fun _ => _) (fun _ _ => True) () b52 (fun _ _ _ => by with_unfolding_all rfl) hR53 (small_one (by omega) (by omega) (by omega) (by omega)) (by rw [show (32 : Int) - 2 * (z : Int) = ((32 - 2 * z : Nat) : Int) by omega, rangeSize_nat]; omega) F53 N53 trivial ?_ ?_
          · skip
            clear F53 N53
            intro i54 _ t54 h54 tk54 own54 hi54 hoff54 _ F54 N54
            (try dsimp only at F54 N54 ⊢)
            rw [Int.zero_add] at F54
            simp only [List.cons_append, List.nil_append, List.append_assoc] at N54
            k_steps
            · exfalso
              exact sq_free (z := z) (i := i54) (by omega) (by omega) hi54 (by assumption) (by assumption)
            all_goals
              rename Fr _ _ _ _ => F57
              rename News _ _ _ _ => N57
              refine ⟨(), _, _, _, _, rfl, F57, N57, ?_, ?_, rfl, trivial⟩
              · walk_at "mine sub"
              · walk_at "mine sub"
          · skip
            clear F53 N53
            intro _ u55 h55 tk55 _ F55 N55
            (try dsimp only at F55 N55 ⊢)
            k_steps
            exact ⟨u55, _, _, _, _, rfl, F55, N55, fun q hq => List.mem_append_left _ hq, fun q hq => List.mem_append_right _ hq, rfl, trivial⟩
        · skip
          clear F51 N50
          intro b56 u56 h56 tk56 _ F56 N56
          (try dsimp only at F56 N56 ⊢)
          k_steps
        )

end Mine

theorem PySem.Challenge.cw_xm0423_01_holds : PySem.Challenge.rw_xm0423_01.Holds := by
  exact Mine.law_holds
