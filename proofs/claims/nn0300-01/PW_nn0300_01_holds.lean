import PyProof.Rows.All
import Wide.All
import OpenK.AllK
import Wide.FinOn
import PySem.Challenge.RW_nn0300_01
open PySem PySem.W PyProof.Rows PySem.Calls
set_option Elab.async false
set_option maxRecDepth 100000
namespace Mine
abbrev PR : Program := PySem.Challenge.rw_nn0300_01.row.prog
abbrev RO : RowW := OpenRow.toRowW PySem.Challenge.rw_nn0300_01.row
-- (text of the heap)
noncomputable abbrev hs (x : String) (t : Nat) : Value := .str (Str.ofString x) t
noncomputable abbrev he (P : Params) (x : String) (t : Nat) (v : Value) : DictEntry := ⟨PyData.keyHash P (Str.ofString x), hs x t, v⟩
noncomputable abbrev dictH (_ : Params) (n : Nat) (es : List DictEntry) : Obj := { cls := .type "dict", data := .dict es.toArray n }
noncomputable abbrev co (n : String) (t ln ac b : Nat) (r1 r2 : Value) (r3 u : Nat) : Obj :=
  { cls := .type "code", data := .fields #[hs n t, hs n (t + 1), hs "/claim/cut.py" (t + 2), .int ln 0, .int ac 0, .int 0 0, .int 0 0, .int 3 0, .ref b, .bool true, .int 181 0, .ref (b + 1), .none, r1, r2, .ref r3, .int u 0, .int ln 0, hs "/claim/cut.py" (u + 1)] }
noncomputable abbrev fn {n : Str} {ps : Arguments} {b : List Stmt} {d r tp} {sc : Scope} {ts bi p} (j : Nat) (_ : PR.main.body[j]? = some (.FunctionDef n ps b d r tp sc ts bi p)) (m : String) (t c : Nat) : Obj :=
  { cls := .type "function", data := .func { name := n, qualname := n, params := ps, body := .stmts b, scope := sc, globals := mainGlobals, closure := [], defaults := .none, kwdefaults := .none, pyModule := hs m t, code := .ref c, builtins := builtinsNs } }
noncomputable abbrev dr {n : Str} {ps : Arguments} {b : List Stmt} {d r tp} {sc : Scope} {ts bi p} (j : Nat) (_ : PR.main.body[j]? = some (.FunctionDef n ps b d r tp sc ts bi p)) : DefRec := ⟨n, ps, b, sc, p⟩
noncomputable def hd.heap_39 : Params → Frag := fun P =>
  (nat_lit 3, dictH P 40 (he P "__name__" 165 (hs "law_nn0300_01" 321) :: he P "__doc__" 166 (.none) :: he P "__package__" 167 (.none) :: he P "__loader__" 168 (.builtin "__main__.__loader__#opaque") :: he P "__spec__" 169 (.none) :: he P "__annotations__" 170 (.ref 6) :: he P "__builtins__" 171 (.ref 4) :: he P "__file__" 173 (hs "/claim/cut.py" 172) :: he P "__cached__" 174 (.none) :: he P "code" 196 (.ref 21) :: he P "from_codes" 206 (.ref 28) :: he P "PULL" 210 (.int 5 209) :: he P "SUPPLY" 212 (.int 7 211) :: he P "CAPACITANCE" 214 (.int 2 213) :: he P "ZERO" 216 (.int 0 215) :: he P "ONE" 218 (.int 1 217) :: he P "HIGH_Z" 220 (.int 2 219) :: he P "UNKNOWN" 222 (.int 3 221) :: he P "drive_bit" 231 (.ref 35) :: he P "drive" 237 (.ref 40) :: he P "stronger" 246 (.ref 47) :: he P "join" 257 (.ref 54) :: he P "rest_drive" 265 (.ref 61) :: he P "held_code" 273 (.ref 68) :: he P "resolve_bits" 287 (.ref 75) :: he P "pair_code" 294 (.ref 82) :: he P "pairs_vec" 300 (.ref 87) :: he P "strength_name" 307 (.ref 94) :: he P "strength_text" 320 (.ref 101) :: he P "_law_row" 333 (.ref 108) :: he P "_law_next" 340 (.ref 115) :: he P "_law_bits" 352 (.ref 122) :: he P "_law_made" 362 (.ref 129) :: he P "_law_kinds" 368 (.ref 136) :: he P "_law_driver" 378 (.ref 143) :: he P "_law_rest" 386 (.ref 150) :: he P "_law_outcome" 392 (.ref 155) :: he P "_law_code" 398 (.ref 160) :: he P "_law_letters" 406 (.ref 167) :: he P "law" 412 (.ref 172) :: [])) ::
  (nat_lit 20, co "code" 189 2 2 15 (.ref 17) (.ref 18) 19 194) ::
  (nat_lit 21, fn 1 rfl "gateloom.vec" 187 20) ::
  (nat_lit 27, co "from_codes" 197 4 1 22 (.ref 24) (.ref 25) 26 204) ::
  (nat_lit 28, fn 2 rfl "gateloom.vec" 187 27) ::
  (nat_lit 34, co "drive_bit" 223 19 3 29 (.ref 31) (.ref 32) 33 229) ::
  (nat_lit 35, fn 11 rfl "gateloom.nets" 207 34) ::
  (nat_lit 39, co "drive" 232 27 3 36 (.none) (.none) 38 235) ::
  (nat_lit 40, fn 12 rfl "gateloom.nets" 207 39) ::
  (nat_lit 46, co "stronger" 238 29 3 41 (.ref 43) (.ref 44) 45 244) ::
  (nat_lit 47, fn 13 rfl "gateloom.nets" 207 46) ::
  (nat_lit 53, co "join" 247 37 3 48 (.ref 50) (.ref 51) 52 255) ::
  (nat_lit 54, fn 14 rfl "gateloom.nets" 207 53) ::
  (nat_lit 60, co "rest_drive" 258 41 2 55 (.ref 57) (.ref 58) 59 263) ::
  (nat_lit 61, fn 15 rfl "gateloom.nets" 207 60) ::
  (nat_lit 67, co "held_code" 266 53 2 62 (.ref 64) (.ref 65) 66 271) ::
  (nat_lit 68, fn 16 rfl "gateloom.nets" 207 67) ::
  (nat_lit 74, co "resolve_bits" 274 57 4 69 (.ref 71) (.ref 72) 73 285) ::
  (nat_lit 75, fn 17 rfl "gateloom.nets" 207 74) ::
  (nat_lit 81, co "pair_code" 288 65 1 76 (.ref 78) (.ref 79) 80 292) ::
  (nat_lit 82, fn 18 rfl "gateloom.nets" 207 81) ::
  (nat_lit 86, co "pairs_vec" 295 73 1 83 (.none) (.none) 85 298) ::
  (nat_lit 87, fn 19 rfl "gateloom.nets" 207 86) ::
  (nat_lit 93, co "strength_name" 301 75 1 88 (.ref 90) (.ref 91) 92 305) ::
  (nat_lit 94, fn 20 rfl "gateloom.nets" 207 93) ::
  (nat_lit 100, co "strength_text" 308 77 1 95 (.ref 97) (.ref 98) 99 318) ::
  (nat_lit 101, fn 21 rfl "gateloom.nets" 207 100) ::
  (nat_lit 107, co "_law_row" 323 97 1 102 (.ref 104) (.ref 105) 106 331) ::
  (nat_lit 108, fn 23 rfl "law_nn0300_01" 321 107) ::
  (nat_lit 114, co "_law_next" 334 110 1 109 (.ref 111) (.ref 112) 113 338) ::
  (nat_lit 115, fn 24 rfl "law_nn0300_01" 321 114) ::
  (nat_lit 121, co "_law_bits" 341 112 2 116 (.ref 118) (.ref 119) 120 350) ::
  (nat_lit 122, fn 25 rfl "law_nn0300_01" 321 121) ::
  (nat_lit 128, co "_law_made" 353 120 1 123 (.ref 125) (.ref 126) 127 360) ::
  (nat_lit 129, fn 26 rfl "law_nn0300_01" 321 128) ::
  (nat_lit 135, co "_law_kinds" 363 127 0 130 (.ref 132) (.ref 133) 134 366) ::
  (nat_lit 136, fn 27 rfl "law_nn0300_01" 321 135) ::
  (nat_lit 142, co "_law_driver" 369 129 1 137 (.ref 139) (.ref 140) 141 376) ::
  (nat_lit 143, fn 28 rfl "law_nn0300_01" 321 142) ::
  (nat_lit 149, co "_law_rest" 379 134 2 144 (.ref 146) (.ref 147) 148 384) ::
  (nat_lit 150, fn 29 rfl "law_nn0300_01" 321 149) ::
  (nat_lit 154, co "_law_outcome" 387 138 2 151 (.none) (.none) 153 390) ::
  (nat_lit 155, fn 30 rfl "law_nn0300_01" 321 154) ::
  (nat_lit 159, co "_law_code" 393 147 2 156 (.none) (.none) 158 396) ::
  (nat_lit 160, fn 31 rfl "law_nn0300_01" 321 159) ::
  (nat_lit 166, co "_law_letters" 399 154 1 161 (.ref 163) (.ref 164) 165 404) ::
  (nat_lit 167, fn 32 rfl "law_nn0300_01" 321 166) ::
  (nat_lit 171, co "law" 407 171 1 168 (.none) (.none) 170 410) ::
  (nat_lit 172, fn 33 rfl "law_nn0300_01" 321 171) :: []
noncomputable abbrev hd.ats : List Addr := [3, 20, 21, 27, 28, 34, 35, 39, 40, 46, 47, 53, 54, 60, 61, 67, 68, 74, 75, 81, 82, 86, 87, 93, 94, 100, 101, 107, 108, 114, 115, 121, 122, 128, 129, 135, 136, 142, 143, 149, 150, 154, 155, 159, 160, 166, 167, 171, 172]
noncomputable def hd.view_39 : Program := view PR [1, 2, 4, 5, 6, 7, 8, 9, 10, 11, 12, 13, 14, 15, 16, 17, 18, 19, 20, 21, 23, 24, 25, 26, 27, 28, 29, 30, 31, 32, 33]
noncomputable abbrev hd.hook : Hook := kHook hd.heap_39 hd.ats (fun _ => by kernel_rfl)
theorem hd.said : PySem.Challenge.rw_nn0300_01.wellSaid = true := by kernel_rfl
theorem hd.left : LeftO PR hd.view_39 [] (fun s => xlAt hd.view_39 [] s && recOk (RowW.records RO) s) (Hook.obs hd.hook) (Hook.val hd.hook) 1754 := fun w => by kernel_rfl
set_option maxHeartbeats 8000000 in
theorem hd (hc : WalkO hd.view_39 [] (XL hd.view_39 []) hd.hook.says RO (dr 33 rfl) [] fun f vs => PySem.call f vs) : PySem.Challenge.rw_nn0300_01.Holds := by
  refine holds_law hd.said fun said => ?_
  refine holds_open (q := hd.view_39) (loose := []) (Xt := fun s => xlAt hd.view_39 [] s && recOk (RowW.records RO) s) (XP := XL hd.view_39 []) (Yf := Hook.obs hd.hook) (Ya := Hook.val hd.hook) (YP := Hook.says hd.hook) (N := 1754) hd.left (Hook.of hd.hook) (Hook.keeps hd.hook) (fun s e => xl_of s (Bool.and_eq_true_iff.mp e).1) XL.keeps (d := dr 33 rfl) (kwd := []) (by kernel_rfl) (by kernel_rfl) (by kernel_rfl) (fun s e => recFacts_of (Bool.and_eq_true_iff.mp e).2) rfl said (by decide +kernel) ⟨rfl, rfl, rfl, rfl, rfl, by decide +kernel⟩ ?hw hc
  case hw => w_witness2
/- 2. data, contracts, frames -/

theorem cl0 {u b c : Nat} (h : u + b + c < cLine) : u + c < cLine := by omega
theorem cl1 {u a b c : Nat} (h : u + b + c < cLine) (g : a ≤ b) : u + a + c < cLine := by omega
theorem cl2 {u x a b c : Nat} (h : u + b + c < cLine) (g : x + a ≤ b) : u + x + a + c < cLine := by omega
theorem dl0 {d b : Nat} (h : d + b < recursionLimit) : d < recursionLimit := by omega
theorem dl1 {d b a : Nat} (h : d + b < recursionLimit) (g : a ≤ b) : d + a < recursionLimit := by omega
theorem dl2 {d b a : Nat} (h : d + b < recursionLimit) (g : 1 + a ≤ b) : d + 1 + a < recursionLimit := by omega
theorem ilo {x : Int} (h : -8 < x) : -2 ^ 1920 < x := by omega
theorem ihi {x : Int} (h : x < 8) : x < 2 ^ 1920 := by omega
theorem iten {x : Int} (h : x < 8) : x < 10 ^ 10 := by omega
theorem dec_lt {i n : Nat} (h : i < n) : n + 1 - (i + 1) < n + 1 - i := Nat.sub_lt_sub_left (Nat.lt_succ_of_lt h) (Nat.lt_succ_self i)
theorem eight {k : Int} (h : 0 ≤ k ∧ k < 8) : k = 0 ∨ k = 1 ∨ k = 2 ∨ k = 3 ∨ k = 4 ∨ k = 5 ∨ k = 6 ∨ k = 7 := by
  obtain ⟨n, rfl⟩ := Int.eq_ofNat_of_zero_le h.1
  exact (by decide : ∀ n < 8, ((n : Nat) : Int) = 0 ∨ (n : Int) = 1 ∨ (n : Int) = 2 ∨ (n : Int) = 3 ∨ (n : Int) = 4 ∨ (n : Int) = 5 ∨ (n : Int) = 6 ∨ (n : Int) = 7) n (Int.ofNat_lt.mp h.2)
abbrev Grow (h h' : Heap) : Prop := ∀ b o, h.get? b = some o → h'.get? b = some o
abbrev Ar (dp un : Nat) (gd : Option (List Code)) (fr : Option (List Env)) : Around := { handled := none, depth := dp, frames := fr, guards := gd, units := un }

structure Gd (w : World) (h : Heap) : Prop where
  k : (Mine.hd.heap_39 w.params).In h
  t : ∃ p loose mean mg mb, Top p loose mean mg mb h
theorem Gd.keeps {w : World} {h h' : Heap} (G : Gd w h) (g : Grow h h') : Gd w h' :=
  ⟨G.k.keeps g, let ⟨p, l, me, mg, mb, T⟩ := G.t; ⟨p, l, me, mg, mb, T.keeps g⟩⟩

abbrev tupOf (its : Array Value) (n : Nat) : Obj := { cls := .type "tuple", data := .seq its n }

-- a value bears a datum, over what is known of objects
mutual
inductive Dt (P : Addr → Obj → Prop) : Value → PyData → Prop
  | none : Dt P .none .none
  | bool (b : Bool) : Dt P (.bool b) (.bool b)
  | int (i : Int) (t : Tok) : Dt P (.int i t) (.int i)
  | str (x : Str) (t : Tok) : Dt P (.str x t) (.str x)
  | list {a vs n ds} : P a (listOf (List.toArray vs) n) → DtA P vs ds → Dt P (.ref a) (.list ds)
  | tuple {a vs n ds} : P a (tupOf (List.toArray vs) n) → DtA P vs ds → Dt P (.ref a) (.tuple ds)
inductive DtA (P : Addr → Obj → Prop) : List Value → List PyData → Prop
  | nil : DtA P [] []
  | cons {v vs d ds} : Dt P v d → DtA P vs ds → DtA P (v :: vs) (d :: ds)
end
mutual
theorem Dt.mono {P P' : Addr → Obj → Prop} (hs : ∀ a o, P a o → P' a o) : ∀ {v : Value} {d : PyData}, Dt P v d → Dt P' v d
  | _, _, .none => .none
  | _, _, .bool b => .bool b
  | _, _, .int i t => .int i t
  | _, _, .str x t => .str x t
  | _, _, .list hm r => .list (hs _ _ hm) (DtA.mono hs r)
  | _, _, .tuple hm r => .tuple (hs _ _ hm) (DtA.mono hs r)
theorem DtA.mono {P P' : Addr → Obj → Prop} (hs : ∀ a o, P a o → P' a o) : ∀ {vs : List Value} {ds : List PyData}, DtA P vs ds → DtA P' vs ds
  | _, _, .nil => .nil
  | _, _, .cons h r => .cons (Dt.mono hs h) (DtA.mono hs r)
end
/-- over a heap; over a ledger -/
abbrev Rd (h : Heap) (v : Value) (d : PyData) : Prop := Dt (fun a o => h.get? a = some o) v d
abbrev RdA (h : Heap) (vs : List Value) (ds : List PyData) : Prop := DtA (fun a o => h.get? a = some o) vs ds
abbrev In (l : List (Addr × Obj)) (v : Value) (d : PyData) : Prop := Dt (fun a o => (a, o) ∈ l) v d
abbrev InA (l : List (Addr × Obj)) (vs : List Value) (ds : List PyData) : Prop := DtA (fun a o => (a, o) ∈ l) vs ds
theorem Rd.keeps {h h' : Heap} (g : Grow h h') {v : Value} {d : PyData} (r : Rd h v d) : Rd h' v d := Dt.mono (fun a o => g a o) r
theorem RdA.keeps {h h' : Heap} (g : Grow h h') {vs : List Value} {ds : List PyData} (r : RdA h vs ds) : RdA h' vs ds := DtA.mono (fun a o => g a o) r
theorem In.sub {l l' : List (Addr × Obj)} (g : ∀ p ∈ l, p ∈ l') {v : Value} {d : PyData} (r : In l v d) : In l' v d := Dt.mono (fun a o => g (a, o)) r
theorem InA.sub {l l' : List (Addr × Obj)} (g : ∀ p ∈ l, p ∈ l') {vs : List Value} {ds : List PyData} (r : InA l vs ds) : InA l' vs ds := DtA.mono (fun a o => g (a, o)) r
theorem In.rd {h₀ h : Heap} {L : Addr} {l : List (Addr × Obj)} (N : News h₀ L h l) {v : Value} {d : PyData} (r : In l v d) : Rd h v d := Dt.mono (fun a o q => (N (a, o) q).1) r
theorem InA.rd {h₀ h : Heap} {L : Addr} {l : List (Addr × Obj)} (N : News h₀ L h l) {vs : List Value} {ds : List PyData} (r : InA l vs ds) : RdA h vs ds := DtA.mono (fun a o q => (N (a, o) q).1) r

mutual
theorem Rd.reads {h : Heap} : ∀ {v : Value} {d : PyData}, Rd h v d → ∃ as, Reads h v d as
  | _, _, .none => ⟨_, .none⟩
  | _, _, .bool b => ⟨_, .bool b⟩
  | _, _, .int i t => ⟨_, .int i t⟩
  | _, _, .str x t => ⟨_, .str x t⟩
  | _, _, .list hm r => let ⟨_, q⟩ := RdA.reads r; ⟨_, .list hm rfl rfl (by simpa using q)⟩
  | _, _, .tuple hm r => let ⟨_, q⟩ := RdA.reads r; ⟨_, .tuple hm rfl rfl (by simpa using q)⟩
theorem RdA.reads {h : Heap} : ∀ {vs : List Value} {ds : List PyData}, RdA h vs ds → ∃ as, ReadsAll h vs ds as
  | _, _, .nil => ⟨_, .nil⟩
  | _, _, .cons h r => let ⟨_, q⟩ := Rd.reads h; let ⟨_, p⟩ := RdA.reads r; ⟨_, .cons q p⟩
end

def Fresh (h h' : Heap) (tl : List (Addr × Obj)) : Prop := ∀ p ∈ tl, h'.get? p.1 = some p.2 ∧ h.get? p.1 = none
theorem fresh_of {h₀ h : Heap} {L : Addr} {l : List (Addr × Obj)} (N : News h₀ L h l) : Fresh h₀ h l := fun p hp => ⟨(N p hp).1, (N p hp).2.2⟩
def Out (h h' : Heap) (v : Value) (d : PyData) : Prop := ∃ tl, Fresh h h' tl ∧ In tl v d

def Ct (w : World) (f : Addr) (k : Nat) (pre : Heap → List Value → Prop) (post : Heap → Heap → Value → Prop) : Prop :=
  ∀ (dp un : Nat) (gd : Option (List Code)) (fr : Option (List Env)) (s : Shared) (vs : List Value) (Q E : Value → Shared → Prop),
    Gd w s.heap → pre s.heap vs → dp + k < recursionLimit → un + 8 * k + 64 < cLine →
    (∀ v h' tk, Grow s.heap h' → post s.heap h' v → Q v { s with heap := h', toks := tk }) →
    wpAny (model PR w) (Ar dp un gd fr) (call (.ref f) vs) Q E s
/-- a def that takes data and gives a datum, new -/
abbrev Pu (w : World) (f : Addr) (k : Nat) (ds : List PyData) (r : PyData) : Prop := Ct w f k (fun h vs => RdA h vs ds) (fun h h' v => Out h h' v r)

theorem news_out {h₀ h h' : Heap} {L : Addr} {m : Str → Option Value} {news tl : List (Addr × Obj)} (F : Fr h₀ L h m) (N : News h₀ L h news) (g : Grow h h') (T : Fresh h h' tl) : News h₀ L h' (news ++ tl) := by
  intro p hp
  rcases (List.mem_append.mp hp).symm with q | q
  · obtain ⟨oL, _, _, hL, _⟩ := F.ns
    refine ⟨(T p q).1, fun e => ?_, ?_⟩
    · have := (T p q).2
      rw [e, hL] at this; cases this
    · cases e : h₀.get? p.1 with
      | none => rfl
      | some o => have := F.keep _ _ e; rw [(T p q).2] at this; cases this
  · exact ⟨g _ _ (N p q).1, (N p q).2⟩
theorem off_out {h₀ h h' : Heap} {L : Addr} {news tl : List (Addr × Obj)} (N : News h₀ L h news) (T : Fresh h h' tl) : ∀ q ∈ news, ∀ p ∈ tl, p.1 ≠ q.1 := by
  intro q hq p hp e
  have h1 := (N q hq).1
  rw [← e, (T p hp).2] at h1
  cases h1
theorem fr_out {h₀ h h' : Heap} {L : Addr} {m : Str → Option Value} (F : Fr h₀ L h m) (g : Grow h h') : Fr h₀ L h' m :=
  ⟨F.ns.keeps g, fun b o e => g _ _ (F.keep b o e), F.above⟩

section
variable {w : World} {s : Shared} {dp un : Nat} {gd : Option (List Code)} {fr : Option (List Env)}
theorem enter {K : Frag} {R : Result → Shared → Prop} {name qual : Str} {params : Arguments} {body : List Stmt} {scope : Scope} {dV kV doc pm cdv ct oc : Value} {an od : Option Addr} {osl : Array (Option Value)} {f : Addr} {pos : List Value}
    (G : Gd w s.heap) (X : K.In s.heap)
    (ho : K.lookup f = some ⟨oc, od, .func (fnOf name qual params body scope dV kV doc pm an cdv ct), osl⟩) (hcd : codeIn K cdv qual = true) (hroom : dp < recursionLimit)
    (hbind : bindArgs (fnOf name qual params body scope dV kV doc pm an cdv ct) ⟨pos, []⟩ = pure ((params.args.map (·.arg)).zip pos)) (hloc : ∀ y ∈ (params.args.map (·.arg)).zip pos, scope.names.lookup y.1 = some .local)
    (h : ∀ L h₁ tk fr', Fr s.heap L h₁ (fun y => ((params.args.map (·.arg)).zip pos).reverse.lookup y) → News s.heap L h₁ [] →
      wpAny (model PR w) (Ar (dp + 1) (un + 3) gd fr') (execs body (envOf qual scope L f cdv))
        (fun fl s' => R (.ok (.ret (match fl with | .ret v => v | _ => .none))) s')
        (fun _ _ => False)
        { s with heap := h₁, toks := tk })
    (hco : scope.isCoroutine = false) (hgen : scope.isGenerator = false) (hk : scope.kind = .function)
    (hcell : ∀ x ∈ scope.names, x.2 ≠ .cell) : codeAny (model PR w) (Ar dp un gd fr) (.call (.ref f) ⟨pos, []⟩) R s := by
  obtain ⟨p, l, me, mg, mb, T⟩ := G.t
  refine codeAny_call_def (fd := fnOf name qual params body scope dV kV doc pm an cdv ct) (body := body) hroom (X _ _ ho) rfl T.nolimit (codeRec_of X hcd) rfl (BindsTo.of_eq hbind) hcell hloc (fun h₁ hns hk₁ => ?_) hco hgen hk
  exact wpAny_mono (h s.heap.objs.size h₁ _ _ ⟨hns, fun b o e => hk₁ b o e, Nat.le_refl _⟩ News.nil) (fun _ _ x => x) (fun _ _ x => x.elim)

theorem Ct.use {f : Addr} {k : Nat} {pre : Heap → List Value → Prop} {post : Heap → Heap → Value → Prop} {h₀ : Heap} {L : Addr} {m : Str → Option Value} {news : List (Addr × Obj)} {vs : List Value} {Q E : Value → Shared → Prop}
    (C : Ct w f k pre post) (G : Gd w h₀) (F : Fr h₀ L s.heap m) (N : News h₀ L s.heap news) (hp : pre s.heap vs) (hd : dp + k < recursionLimit) (hu : un + 8 * k + 64 < cLine)
    (h : ∀ v h' tk, Fr h₀ L h' m → News h₀ L h' news → Grow s.heap h' → post s.heap h' v → Q v { s with heap := h', toks := tk }) :
    wpAny (model PR w) (Ar dp un gd fr) (call (.ref f) vs) Q E s :=
  C dp un gd fr s vs Q E (G.keeps F.keep) hp hd hu fun v h' tk g p => h v h' tk (fr_out F g) (fun q hq => ⟨g _ _ (N q hq).1, (N q hq).2⟩) g p
/-- the result is a datum, new: it joins the ledger -/
theorem Pu.use {f : Addr} {k : Nat} {ds : List PyData} {r : PyData} {h₀ : Heap} {L : Addr} {m : Str → Option Value} {news : List (Addr × Obj)} {vs : List Value} {Q E : Value → Shared → Prop}
    (C : Pu w f k ds r) (G : Gd w h₀) (F : Fr h₀ L s.heap m) (N : News h₀ L s.heap news) (hp : RdA s.heap vs ds) (hd : dp + k < recursionLimit) (hu : un + 8 * k + 64 < cLine)
    (h : ∀ v h' tk tl, Fr h₀ L h' m → News h₀ L h' (news ++ tl) → (∀ q ∈ news, ∀ p ∈ tl, p.1 ≠ q.1) → In tl v r → Q v { s with heap := h', toks := tk }) :
    wpAny (model PR w) (Ar dp un gd fr) (call (.ref f) vs) Q E s :=
  C dp un gd fr s vs Q E (G.keeps F.keep) hp hd hu fun v h' tk g ⟨_, T, I⟩ => h v h' tk _ (fr_out F g) (news_out F N g T) (off_out N T) I
theorem Pu.useI {f : Addr} {k : Nat} {ds : List PyData} {x : Int} {h₀ : Heap} {L : Addr} {m : Str → Option Value} {news : List (Addr × Obj)} {vs : List Value} {Q E : Value → Shared → Prop}
    (C : Pu w f k ds (.int x)) (G : Gd w h₀) (F : Fr h₀ L s.heap m) (N : News h₀ L s.heap news) (hp : RdA s.heap vs ds) (hd : dp + k < recursionLimit) (hu : un + 8 * k + 64 < cLine)
    (h : ∀ t h' tk, Fr h₀ L h' m → News h₀ L h' news → Q (.int x t) { s with heap := h', toks := tk }) :
    wpAny (model PR w) (Ar dp un gd fr) (call (.ref f) vs) Q E s :=
  Pu.use C G F N hp hd hu fun v h' tk tl F' N' _ I => by
    cases I
    exact h _ _ _ F' fun p hp => N' p (List.mem_append.mpr (.inl hp))
theorem Pu.useS {f : Addr} {k : Nat} {ds : List PyData} {x : Str} {h₀ : Heap} {L : Addr} {m : Str → Option Value} {news : List (Addr × Obj)} {vs : List Value} {Q E : Value → Shared → Prop}
    (C : Pu w f k ds (.str x)) (G : Gd w h₀) (F : Fr h₀ L s.heap m) (N : News h₀ L s.heap news) (hp : RdA s.heap vs ds) (hd : dp + k < recursionLimit) (hu : un + 8 * k + 64 < cLine)
    (h : ∀ t h' tk, Fr h₀ L h' m → News h₀ L h' news → Q (.str x t) { s with heap := h', toks := tk }) :
    wpAny (model PR w) (Ar dp un gd fr) (call (.ref f) vs) Q E s :=
  Pu.use C G F N hp hd hu fun v h' tk tl F' N' _ I => by
    cases I
    exact h _ _ _ F' fun p hp => N' p (List.mem_append.mpr (.inl hp))
theorem dt_int {P : Addr → Obj → Prop} {x y : Int} {t : Tok} (e : x = y) : Dt P (.int x t) (.int y) := e ▸ .int x t
theorem dt_str {P : Addr → Obj → Prop} {x y : Str} {t : Tok} (e : x = y) : Dt P (.str x t) (.str y) := e ▸ .str x t
structure Rdk (h : Heap) (v : Value) (d : PyData) : Prop where
  out : Rd h v d
theorem isTup_of {h : Heap} {a : Addr} {vs : Array Value} {n : Nat} (e : h.get? a = some (tupOf vs n)) : IsTup h a vs := ⟨_, e, rfl, _, rfl⟩
theorem isList_of {h : Heap} {a : Addr} {vs : Array Value} {n : Nat} (e : h.get? a = some (listOf vs n)) : h.IsList a vs := ⟨_, e, rfl, _, rfl⟩
end
/- a frame whose names are cells -/
section
variable {w : World} {s : Shared} {dp un : Nat} {gd : Option (List Code)} {fr : Option (List Env)}
theorem enterC {K : Frag} {R : Result → Shared → Prop} {name qual : Str} {params : Arguments} {body : List Stmt} {scope : Scope} {dV kV doc pm cdv ct oc : Value} {an od : Option Addr} {osl : Array (Option Value)} {f : Addr} {pos : List Value}
    (G : Gd w s.heap) (X : K.In s.heap)
    (ho : K.lookup f = some ⟨oc, od, .func (fnOf name qual params body scope dV kV doc pm an cdv ct), osl⟩) (hcd : codeIn K cdv qual = true) (hroom : dp < recursionLimit)
    (hbind : bindArgs (fnOf name qual params body scope dV kV doc pm an cdv ct) ⟨pos, []⟩ = pure ((params.args.map (·.arg)).zip pos))
    (hkind : (((params.args.map (·.arg)).zip pos).all fun y => scope.names.lookup y.1 == some .local || scope.names.lookup y.1 == some .cell) = true)
    (hnd : ((cellsFrom 0 scope.names []).map (·.1)).Nodup)
    (h : ∀ L h₁ tk fr' cells, Fr s.heap L h₁ (bindL (envOfC qual scope L f cdv).kindOf ((params.args.map (·.arg)).zip pos) fun _ => none) → News s.heap L h₁ cells →
      CellsAre (bindC (envOfC qual scope L f cdv).kindOf ((params.args.map (·.arg)).zip pos) fun _ => none) (cellsFrom (L + 1) scope.names []) cells →
      wpAny (model PR w) (Ar (dp + 1) (un + 3) gd fr') (execs body (envOfC qual scope L f cdv))
        (fun fl s' => R (.ok (.ret (match fl with | .ret v => v | _ => .none))) s')
        (fun _ _ => False)
        { s with heap := h₁, toks := tk })
    (hco : scope.isCoroutine = false) (hgen : scope.isGenerator = false) (hk : scope.kind = .function) : codeAny (model PR w) (Ar dp un gd fr) (.call (.ref f) ⟨pos, []⟩) R s := by
  obtain ⟨p, l, me, mg, mb, T⟩ := G.t
  refine codeAny_call_function hroom (X _ _ ho) rfl hco hgen rfl (codeRec_of X hcd) (BindsTo.of_eq hbind _ _ _ _ ?_)
  refine wpAny_newFunctionEnv_cells hk (kindsX hkind _) fun env' he s' x => ?_
  subst he
  refine ⟨T.nolimit.keeps x.toInCall.keep, codeAny_func ?_⟩
  obtain ⟨h₁, tk, rfl, _⟩ := x.done
  obtain ⟨cells, NC, Y⟩ := Cl.news (h₀ := s.heap) (Nat.le_refl _) fun n c hm => ⟨x.cell n c (lookup_of_mem_nodup (cellsFrom_names scope.names 0 (s.heap.objs.size + 1) [] [] rfl ▸ hnd) hm), x.above n c hm⟩
  exact wpAny_mono (h s.heap.objs.size h₁ tk _ cells ⟨x.toInCall.ns, x.toInCall.keep, Nat.le_refl _⟩ NC Y) (fun _ _ x => x) (fun _ _ x => x.elim)
/- a frame that may change one object of its caller's: it stands in the ledger, hidden from the base -/
theorem enterH {K : Frag} {R : Result → Shared → Prop} {name qual : Str} {params : Arguments} {body : List Stmt} {scope : Scope} {dV kV doc pm cdv ct oc : Value} {an od : Option Addr} {osl : Array (Option Value)} {f : Addr} {pos : List Value} {r : Addr} {ro : Obj}
    (G : Gd w (hideAll s.heap [r])) (X : K.In (hideAll s.heap [r])) (hr : s.heap.get? r = some ro)
    (ho : K.lookup f = some ⟨oc, od, .func (fnOf name qual params body scope dV kV doc pm an cdv ct), osl⟩) (hcd : codeIn K cdv qual = true) (hroom : dp < recursionLimit)
    (hbind : bindArgs (fnOf name qual params body scope dV kV doc pm an cdv ct) ⟨pos, []⟩ = pure ((params.args.map (·.arg)).zip pos)) (hloc : ∀ y ∈ (params.args.map (·.arg)).zip pos, scope.names.lookup y.1 = some .local)
    (h : ∀ L h₁ tk fr', Fr (hideAll s.heap [r]) L h₁ (fun y => ((params.args.map (·.arg)).zip pos).reverse.lookup y) → News (hideAll s.heap [r]) L h₁ [(r, ro)] → r < L →
      wpAny (model PR w) (Ar (dp + 1) (un + 3) gd fr') (execs body (envOf qual scope L f cdv))
        (fun fl s' => R (.ok (.ret (match fl with | .ret v => v | _ => .none))) s')
        (fun _ _ => False)
        { s with heap := h₁, toks := tk })
    (hco : scope.isCoroutine = false) (hgen : scope.isGenerator = false) (hk : scope.kind = .function)
    (hcell : ∀ x ∈ scope.names, x.2 ≠ .cell) : codeAny (model PR w) (Ar dp un gd fr) (.call (.ref f) ⟨pos, []⟩) R s := by
  obtain ⟨p, l, me, mg, mb, T⟩ := G.t
  have up : ∀ b o, (hideAll s.heap [r]).get? b = some o → s.heap.get? b = some o := fun b o e => of_hideAll _ e
  refine codeAny_call_def (fd := fnOf name qual params body scope dV kV doc pm an cdv ct) (body := body) hroom (up _ _ (X _ _ ho)) rfl (T.nolimit.keeps up) (codeRec_of (X.keeps up) hcd) rfl (BindsTo.of_eq hbind) hcell hloc (fun h₁ hns hk₁ => ?_) hco hgen hk
  refine wpAny_mono (h s.heap.objs.size h₁ _ _ ⟨hns, fun b o e => hk₁ b o (up b o e), Nat.le_of_eq (hideAll_size _ _)⟩ (fun q hq => ?_) (Heap.lt_size hr)) (fun _ _ x => x) (fun _ _ x => x.elim)
  rw [List.mem_singleton.mp hq]
  exact ⟨hk₁ _ _ hr, Nat.ne_of_lt (Heap.lt_size hr), hideAll_none _ (.head _)⟩
end

/-- the row of drawn ints -/
abbrev RowOk (ns : List Int) : Prop := ns.length ≤ 160 ∧ ∀ x ∈ ns, 0 ≤ x ∧ x < 1024
abbrev Ints (vs : List Value) (ns : List Int) : Prop := DtA (fun _ _ => False) vs (ns.map .int)
/-- a def whose first argument is the row, which it may change; it gives a datum of a kind, new -/
def Cr (w : World) (f : Addr) (k : Nat) (pre : List Value → Prop) (D : PyData → Prop) : Prop :=
  ∀ (dp un : Nat) (gd : Option (List Code)) (fr : Option (List Env)) (s : Shared) (r : Addr) (vs us : List Value) (n : Nat) (ns : List Int) (Q E : Value → Shared → Prop),
    Gd w (hideAll s.heap [r]) → s.heap.get? r = some (listOf (List.toArray us) n) → Ints us ns → RowOk ns → pre vs → dp + k < recursionLimit → un + 8 * k + 64 < cLine →
    (∀ v h' tk us' n' ns' tl d, Grow (hideAll s.heap [r]) h' → h'.get? r = some (listOf (List.toArray us') n') → Ints us' ns' → RowOk ns' → Fresh s.heap h' tl → In tl v d → D d → Q v { s with heap := h', toks := tk }) →
    wpAny (model PR w) (Ar dp un gd fr) (call (.ref f) (.ref r :: vs)) Q E s
theorem Cr.use {w : World} {s : Shared} {dp un : Nat} {gd : Option (List Code)} {fr : Option (List Env)} {f : Addr} {k : Nat} {pre : List Value → Prop} {D : PyData → Prop} {h₀ : Heap} {L r : Addr} {m : Str → Option Value} {news : List (Addr × Obj)} {g : Obj → List (Addr × Obj)} {vs us : List Value} {n : Nat} {ns : List Int} {Q E : Value → Shared → Prop}
    (C : Cr w f k pre D) (G : Gd w h₀) (F : Fr h₀ L s.heap m) (N : News h₀ L s.heap news) (U : UpdF r (listOf (List.toArray us) n) news g) (I : Ints us ns) (ok : RowOk ns) (hp : pre vs) (hd : dp + k < recursionLimit) (hu : un + 8 * k + 64 < cLine)
    (h : ∀ v h' tk us' n' ns' tl d, Fr h₀ L h' m → News h₀ L h' (g (listOf (List.toArray us') n') ++ tl) → (∀ q ∈ g (listOf (List.toArray us') n'), ∀ p ∈ tl, p.1 ≠ q.1) → Ints us' ns' → RowOk ns' → In tl v d → D d → Q v { s with heap := h', toks := tk }) :
    wpAny (model PR w) (Ar dp un gd fr) (call (.ref f) (.ref r :: vs)) Q E s := by
  obtain ⟨pre', post', rfl, hg, n1, n2⟩ := U.split
  have hR := N (r, listOf (List.toArray us) n) (List.mem_append.mpr (.inr (.head _)))
  have hrL : L ≠ r := fun e => hR.2.1 e.symm
  have gr : Grow h₀ (hideAll s.heap [r]) := fun b o e => hideAll_get _ (F.keep b o e) fun q => by
    rw [List.mem_singleton.mp q, hR.2.2] at e; cases e
  refine C dp un gd fr s r vs us n ns Q E (G.keeps gr) hR.1 I ok hp hd hu fun v h' tk us' n' ns' tl d gk hr' I' ok' T It Dd => ?_
  have old : ∀ b o, b ≠ r → s.heap.get? b = some o → h'.get? b = some o := fun b o hb e => gk b o (hideAll_get _ e fun q => hb (List.mem_singleton.mp q))
  have N' : News h₀ L h' (g (listOf (List.toArray us') n')) := by
    rw [hg]
    intro p hp
    rcases List.mem_append.mp hp with q | q
    · have z := N p (List.mem_append.mpr (.inl q))
      exact ⟨old _ _ (n1 p q) z.1, z.2⟩
    · rcases List.mem_cons.mp q with rfl | q
      · exact ⟨hr', hR.2⟩
      · have z := N p (List.mem_append.mpr (.inr (.tail _ q)))
        exact ⟨old _ _ (n2 p q) z.1, z.2⟩
  have was : ∀ q ∈ g (listOf (List.toArray us') n'), ∃ o, s.heap.get? q.1 = some o := by
    rw [hg]
    intro q hq
    rcases List.mem_append.mp hq with z | z
    · exact ⟨_, (N q (List.mem_append.mpr (.inl z))).1⟩
    · rcases List.mem_cons.mp z with rfl | z
      · exact ⟨_, hR.1⟩
      · exact ⟨_, (N q (List.mem_append.mpr (.inr (.tail _ z)))).1⟩
  refine h v h' tk us' n' ns' tl d ⟨F.ns.at' fun o e => old _ o hrL e, fun b o e => gk b o (gr b o e), F.above⟩ (fun p hp => ?_) (fun q hq p hp e => ?_) I' ok' It Dd
  · rcases List.mem_append.mp hp with q | q
    · exact N' p q
    · refine ⟨(T p q).1, fun e => ?_, ?_⟩
      · obtain ⟨oL, _, _, hL, _⟩ := F.ns
        have := (T p q).2
        rw [e, hL] at this; cases this
      · cases e : h₀.get? p.1 with
        | none => rfl
        | some o => have := F.keep _ _ e; rw [(T p q).2] at this; cases this
  · obtain ⟨o, ho⟩ := was q hq
    rw [← e, (T p hp).2] at ho
    cases ho
theorem recLim : recursionLimit = 1000 := rfl
theorem cLin : cLine = 9900 := rfl
set_option compiler.extract_closed false
/- 3. the walk's own lines -/
-- fill fragNow
theorem filled : (fun (_ : OpenLaw) (_ : Params → Frag) => True) PySem.Challenge.rw_nn0300_01 Mine.hd.heap_39 := by k_fill; trivial
local macro_rules | `(tactic| walk_at "ct_open") => `(tactic| (repeat (first
  | (rename DtA _ _ [] => h9; cases h9)
  | (rename DtA _ _ (_ :: _) => h9; cases h9)
  | (rename Dt _ _ (PyData.int _) => h9; cases h9)
  | (rename Dt _ _ (PyData.str _) => h9; cases h9)
  | (rename Dt _ _ (PyData.bool _) => h9; cases h9)
  | (rename Dt _ _ PyData.none => h9; cases h9)
  | (rename Dt _ _ (PyData.tuple _) => h9; have r9 := Rdk.mk h9; cases h9; rename _ = some (tupOf _ _) => t9; replace t9 := isTup_of t9)
  | (rename Dt _ _ (PyData.list _) => h9; have r9 := Rdk.mk h9; cases h9; rename _ = some (listOf _ _) => t9; have t9 := isList_of t9))))
local macro_rules | `(tactic| walk_at "dt") => `(tactic| (repeat' (first | exact Dt.int _ _ | exact Dt.str _ _ | exact Dt.bool _ | exact Dt.none | exact DtA.nil | (refine DtA.cons ?_ ?_) | (refine Dt.tuple (by k_mem) ?_) | (refine Dt.list (by k_mem) ?_) | assumption | exact In.sub (fun _ h => by simp only [List.mem_append, List.mem_cons, h, true_or, or_true]) (by assumption))))
local macro_rules | `(tactic| walk_at "rd") => `(tactic| (repeat' (first | exact Dt.int _ _ | exact Dt.str _ _ | exact Dt.bool _ | exact Dt.none | exact DtA.nil | (refine DtA.cons ?_ ?_) | exact Rd.keeps (Fr.keep (by assumption)) (Rdk.out (by assumption)) | exact Rd.keeps (Fr.keep (by assumption)) (by assumption) | exact In.rd (by assumption) (by assumption) | exact In.rd (by assumption) (In.sub (fun _ h => by simp only [List.mem_append, List.mem_cons, h, true_or, or_true]) (by assumption)) | assumption)))
local macro_rules | `(tactic| walk_at "ct_args") => `(tactic| ((case g => assumption); (case f => assumption); (case n => assumption); (case p => walk_at "rd"); (case d => omega); (case u => omega)))
local macro_rules | `(tactic| walk_at "tI") => `(tactic| (walk_at "ct_args"; (try (case x => omega)); intro _ _ _ _ _; (try dsimp only); (try k_fold)))
local macro_rules | `(tactic| walk_at "tN") => `(tactic| (walk_at "ct_args"; (try (case two => assumption)); intro _ _ _ _ _ N9 _ _; (try dsimp only); (try simp only [List.cons_append, List.nil_append, List.append_assoc] at N9); (try k_fold)))
local macro_rules | `(tactic| walk_at "call ref") => `(tactic| k_dflt (first
  | ((refine' Pu.useI ($(Lean.mkIdent `stronger_ct) _ _ _ _) ?g ?f ?n ?p ?d ?u ?_); walk_at "tI")
  | ((refine' Pu.use ($(Lean.mkIdent `drive_bit_ct) _ _ _ _) ?g ?f ?n ?p ?d ?u ?_); walk_at "tN")
  | ((refine' Pu.useI ($(Lean.mkIdent `pair_code_ct) _ _ _) ?g ?f ?n ?p ?d ?u ?_); walk_at "tI")
  | ((refine' Pu.useS ($(Lean.mkIdent `strength_name_ct) _ _ ?x) ?g ?f ?n ?p ?d ?u ?_); walk_at "tI")
  | ((refine' Pu.useI ($(Lean.mkIdent `code_ct) _ _ _ _ _ ?x) ?g ?f ?n ?p ?d ?u ?_); walk_at "tI")
  | ((refine' Pu.use ($(Lean.mkIdent `join_ctP) _ _ _ _) ?g ?f ?n ?p ?d ?u ?_); walk_at "tN")
  | ((refine' Pu.use ($(Lean.mkIdent `rest_ctP) _ _ _) ?g ?f ?n ?p ?d ?u ?_); walk_at "tN")
  | ((refine' Pu.use ($(Lean.mkIdent `law_kinds_ct) _) ?g ?f ?n ?p ?d ?u ?_); walk_at "tN")
  | ((refine' Pu.use ($(Lean.mkIdent `rest_lawP) _ _ _ ?two) ?g ?f ?n ?p ?d ?u ?_); walk_at "tN")
  | refine $(Lean.mkIdent `halt) ?_))
local macro_rules | `(tactic| walk_at "subscriptTail") => `(tactic| k_dflt (first
  | ((with_reducible show wpAny _ _ (subscriptTail (Expr.List _ _) _ (Value.ref _) (Value.int _ _)) _ _ _); refine $(Lean.mkIdent `halt) ?_)
  | ((refine' $(Lean.mkIdent `sub_in) (by assumption) (by assumption) ?gg ?h0 ?hb ?hk ?_); (case gg => walk_at "nsub"); (case h0 => omega); (case hb => omega); (case hk => assumption); intro _ _; (first | (rename In _ _ (PyData.int _) => h8; cases h8) | skip))
  | ((with_reducible show wpAny _ _ (subscriptTail (Expr.Call _ _ _ _) _ _ _) _ _ _); refine $(Lean.mkIdent `halt2) ?_)
  | ((refine' $(Lean.mkIdent `sub_names) (by assumption) (by k_mem) (by walk_at "dt") ?h0 ?_); (case h0 => omega); intro _)))
local macro_rules | `(tactic| walk_at "subscriptTail Name Name ref int") => `(tactic| k_dflt (first
  | ((refine' $(Lean.mkIdent `sub_listB) (by assumption) (by assumption) (by assumption) ?hb ?hx ?_); (case hb => omega); (case hx => assumption); intro _ _; (first | (rename Dt _ _ (PyData.int _) => h8; cases h8) | (rename Dt _ _ (PyData.str _) => h8; cases h8) | skip))
  | ((refine' $(Lean.mkIdent `sub_listN) (Fr.keep (by assumption) _ _ (by assumption)) (RdA.keeps (Fr.keep (by assumption)) (by assumption)) ?hb ?hx ?_); (case hb => omega); (case hx => assumption); intro _ _; walk_at "ct_open")))
local macro_rules | `(tactic| walk_at "exec Assign cons ListComp") => `(tactic| k_dflt (first
  | ((with_reducible show wpAny _ _ (exec (Stmt.Assign _ (Expr.ListComp _ [_, _] _ _) _) _) _ _ _); refine $(Lean.mkIdent `two_assign) (by assumption) (by with_unfolding_all rfl) (by with_unfolding_all rfl) (by decide) (by rfl) (by decide) (by rfl) (by rfl) (by rfl) ?_)
  | refine $(Lean.mkIdent `comp_assignF) (by assumption) (by with_unfolding_all rfl) (by with_unfolding_all rfl) (by decide) (by rfl) (by decide) (by rfl) (by rfl) (by rfl) ?_))
local macro_rules | `(tactic| omega) => `(tactic| with_reducible first | assumption | decide | exact Ne.symm ‹_› | exact Nat.ne_of_gt ‹_› | exact Nat.ne_of_lt ‹_› | exact Nat.le_of_lt ‹_› | exact cl1 ‹_› (by decide) | exact cl2 ‹_› (by decide) | exact cl0 ‹_› | exact dl1 ‹_› (by decide) | exact dl2 ‹_› (by decide) | exact dl0 ‹_› | exact dec_lt ‹_› | exact Int.natCast_nonneg _ | exact ⟨‹_›, ‹_›⟩ | exact ilo ‹_› | exact ihi ‹_› | exact iten ‹_› | exact Nat.le_trans ‹_› (by decide) | exact Nat.lt_of_le_of_lt ‹_› (by decide) | fail)
/- NL -/
/- iteration: an iterator on the heap, new; what it walks stands in the base or among the kept entries -/
abbrev NoE : Value → Shared → Prop := fun _ _ => False
def IterOn (w : World) (A : Around) (h₀ : Heap) (keep : List (Addr × Obj)) (it : Value) (n : Nat) (P : Nat → Value → Prop) (s₁ s₂ : Shared) : Prop :=
  ∃ (I : Addr) (oI : Obj) (fp : List Addr) (St : Nat → Heap → Prop), it = .ref I ∧ Walks PR w A I fp [I] n P St ∧ St 0 s₂.heap ∧ s₂ = { s₁ with heap := s₁.heap.push oI } ∧ I = s₁.heap.objs.size ∧ oI.isFreed = false ∧
    (∀ i h, St i h → ∃ o, h.get? I = some o) ∧ (∀ b ∈ fp, b = I ∨ (∃ o, h₀.get? b = some o) ∨ ∃ o, (b, o) ∈ keep)

section
variable {w : World} {A : Around} {s : Shared} {h₀ : Heap} {Q : Value → Shared → Prop} {E : Value → Shared → Prop}
theorem iter_range {r : Addr} {a b : Int} {t u v : Tok} {n : Nat} (hh : A.handled = none) (hr : IsRange s.heap r a b 1 t u v) (hsmall : Builtin.Range.small a b 1 = true) (hsz : Builtin.Range.rangeSize a b 1 = (n : Int))
    (h : ∀ it s₂, IterOn w A h₀ [] it n (fun i v => ∃ t, v = .int (a + i) t) s s₂ → Q it s₂) : wpAny (model PR w) A (pyIter (.ref r)) Q E s := by
  refine wpAny_pyIter_range hr hsmall (h _ _ ⟨_, _, [s.heap.objs.size], fun i h => IsRangeIter h s.heap.objs.size (a + (i : Nat) * 1) ((n : Int) - (i : Nat)) 1, rfl, ?_, ?_, rfl, rfl, rfl, fun i h q => ⟨_, q⟩, fun b hb => .inl (List.mem_singleton.mp hb)⟩)
  · have W := Walks.range (prog := PR) (w := w) hh s.heap.objs.size a 1 n
    have e : (fun (i : Nat) v => ∃ t, v = Value.int (a + i * 1) t) = fun (i : Nat) v => ∃ t, v = Value.int (a + i) t := by
      funext i v; simp
    rw [e] at W
    exact W
  · show IsRangeIter _ _ _ _ _
    rw [hsz]
    simpa using Heap.get?_push_size _ rfl
theorem iter_list {l : Addr} {vs : List Value} {nn : Nat} {keep : List (Addr × Obj)} (hh : A.handled = none) (hl : s.heap.get? l = some (listOf vs.toArray nn)) (hk : (∃ o, h₀.get? l = some o) ∨ ∃ o, (l, o) ∈ keep)
    (h : ∀ it s₂, IterOn w A h₀ keep it vs.length (fun i v => vs[i]? = some v) s s₂ → Q it s₂) : wpAny (model PR w) A (pyIter (.ref l)) Q E s := by
  have hL := isList_of hl
  have hne : l ≠ s.heap.objs.size := Nat.ne_of_lt (Heap.lt_size hl)
  have W := Walks.list (prog := PR) (w := w) hh s.heap.objs.size l hne vs.toArray
  have e1 : vs.toArray.size = vs.length := by simp
  have e2 : (fun (i : Nat) v => vs.toArray[i]? = some v) = fun (i : Nat) v => vs[i]? = some v := by funext i v; simp
  rw [e1, e2] at W
  refine wpAny_pyIter_list hL (h _ _ ⟨_, _, _, _, rfl, W, ⟨⟨_, Heap.get?_push_size _ rfl, rfl, rfl⟩, hL.at fun o e => Heap.get?_push_of_some _ e⟩, rfl, rfl, rfl, fun i h q => ?_, fun b hb => ?_⟩)
  · obtain ⟨⟨o, ho, _⟩, _⟩ := q
    exact ⟨o, ho⟩
  · rcases List.mem_cons.mp hb with e | hb
    · exact .inl e
    · rw [List.mem_singleton.mp hb]; exact .inr hk
end

def TurnEnd (h₀ : Heap) (L : Addr) (keep : List (Addr × Obj)) (I : Addr) (oI : Obj) (J : (Str → Option Value) → List (Addr × Obj) → Prop) (s₁ : Shared) (Q : Flow → Shared → Prop) (f : Flow) (s' : Shared) : Prop :=
  match f with
  | .ret v => Q (.ret v) s'
  | .brk => Q .next s'
  | _ => ∃ h' tk m' nx, s' = { s₁ with heap := h', toks := tk } ∧ Fr h₀ L h' m' ∧ News h₀ L h' ((I, oI) :: nx) ∧ (∀ p ∈ nx, p.1 ≠ I) ∧ (∀ p ∈ keep, p ∈ nx) ∧ J m' nx

def LoopP (w : World) (A : Around) (h₀ : Heap) (env : Env) (target : Expr) (body : List Stmt) (Q : Flow → Shared → Prop) (it : Value) (s₂ : Shared) : Prop :=
  ∃ (s₁ : Shared) (keep : List (Addr × Obj)) (n : Nat) (P : Nat → Value → Prop) (m : Str → Option Value) (nx : List (Addr × Obj)) (J : Nat → (Str → Option Value) → List (Addr × Obj) → Prop),
    IterOn w A h₀ keep it n P s₁ s₂ ∧ Fr h₀ env.locals s₁.heap m ∧ News h₀ env.locals s₁.heap nx ∧ (∀ p ∈ keep, p ∈ nx) ∧ J 0 m nx ∧
    (∀ i v m nx I oI h tk, i < n → P i v → J i m nx → (∀ p ∈ nx, p.1 ≠ I) → (∀ p ∈ keep, p ∈ nx) → Fr h₀ env.locals h m → News h₀ env.locals h ((I, oI) :: nx) →
      wpAny (model PR w) A (assign target env v) (fun _ s' => wpAny (model PR w) A (execs body env) (TurnEnd h₀ env.locals keep I oI (J (i + 1)) s₁ Q) NoE s') NoE { s₁ with heap := h, toks := tk }) ∧
    (∀ m nx h tk, J n m nx → Fr h₀ env.locals h m → News h₀ env.locals h nx → (∀ p ∈ keep, p ∈ nx) → Q .next { s₁ with heap := h, toks := tk })

theorem size_none {h₀ h : Heap} {L : Addr} {m : Str → Option Value} (F : Fr h₀ L h m) : h₀.get? h.objs.size = none := by
  cases q : h₀.get? h.objs.size with
  | none => rfl
  | some o => exact absurd (Nat.lt_of_lt_of_le (Nat.lt_of_lt_of_le (Heap.lt_size q) F.above) (Nat.le_of_lt F.ns.lt)) (Nat.lt_irrefl _)

theorem fr_but {h₀ h h' : Heap} {L I : Addr} {m : Str → Option Value} (F : Fr h₀ L h m) (hI : h₀.get? I = none) (hL : L ≠ I) (k : ∀ b o, b ∉ [I] → h.get? b = some o → h'.get? b = some o) : Fr h₀ L h' m :=
  ⟨F.ns.at' fun o e => k _ o (fun q => hL (List.mem_singleton.mp q)) e, fun b o e => k b o (fun q => by rw [List.mem_singleton.mp q, hI] at e; cases e) (F.keep b o e), F.above⟩
theorem news_but {h₀ h h' : Heap} {L I : Addr} {nx : List (Addr × Obj)} (N : News h₀ L h nx) (off : ∀ p ∈ nx, p.1 ≠ I) (k : ∀ b o, b ∉ [I] → h.get? b = some o → h'.get? b = some o) : News h₀ L h' nx :=
  fun p hp => ⟨k _ _ (fun q => off p hp (List.mem_singleton.mp q)) (N p hp).1, (N p hp).2⟩

theorem for_rule {w : World} {A : Around} {s : Shared} {h₀ : Heap} {env : Env} {target iter : Expr} {body : List Stmt} {pos : Pos} {Q : Flow → Shared → Prop}
    (h : wpAny (model PR w) A (eval iter env) (fun xv s₁ => wpAny (model PR w) A (pyIter xv) (fun it s₂ => LoopP w A h₀ env target body Q it s₂) NoE s₁) NoE s)
    (hs : ∀ x, foldedSetIterable iter env x = pure x := by intro _; rfl) (ht : ∀ it v, letOwnedTupleGo target it v = pure () := by intro _ _; rfl) :
    wpAny (model PR w) A (exec (.For target iter body [] pos) env) Q NoE s := by
  refine wpAny_For (wpAny_mono h (fun xv s₁ h₁ => wpAny_mono h₁ (fun it s₂ h₂ => ?_) fun _ _ e => e) fun _ _ e => e) hs
  obtain ⟨s₁, keep, n, P, m, nx, J, ⟨I, oI, fp, St, rfl, W, hst, rfl, rfl, hfr, hob, hfp⟩, F, N, hkeep, hJ, turn, done⟩ := h₂
  have hLI : env.locals ≠ s₁.heap.objs.size := Nat.ne_of_lt F.ns.lt
  have hI0 := size_none F
  refine codeAny_forLoop (fun k s' => ∃ h' tk m' nx' i, s' = { s₁ with heap := h', toks := tk } ∧ St i h' ∧ Fr h₀ env.locals h' m' ∧ News h₀ env.locals h' nx' ∧ (∀ p ∈ nx', p.1 ≠ s₁.heap.objs.size) ∧ (∀ p ∈ keep, p ∈ nx') ∧ J i m' nx' ∧ i ≤ n ∧ k = n + 1 - i) ?_ (n + 1)
    ⟨_, _, m, nx, 0, rfl, hst, F.push _, (fun p hp => ⟨Heap.get?_push_of_some _ (N p hp).1, (N p hp).2⟩), (fun p hp => Nat.ne_of_lt (Heap.lt_size (N p hp).1)), hkeep, hJ, Nat.zero_le _, rfl⟩ (ht _)
  rintro k s' ⟨h', tk, m', nx', i, rfl, hst', F', N', off, hk', hJ', hi, rfl⟩
  by_cases hlt : i < n
  · refine W.item i _ _ _ hlt hst' fun v h₁ tk₁ hP hst₁ hk₁ => ?_
    obtain ⟨oJ, hoJ⟩ := hob _ _ hst₁
    have F₁ := fr_but F' hI0 hLI hk₁
    have N₁ := news_but N' off hk₁
    have N₂ : News h₀ env.locals h₁ ((s₁.heap.objs.size, oJ) :: nx') := fun p hp => by
      rcases List.mem_cons.mp hp with rfl | hp
      · exact ⟨hoJ, Ne.symm hLI, hI0⟩
      · exact N₁ p hp
    refine wpAny_mono (turn i v m' nx' _ oJ h₁ tk₁ hlt hP hJ' off hk' F₁ N₂) (fun _ s₂ h₂ => wpAny_mono h₂ (fun f s₃ h₃ => ?_) fun _ _ e => e.elim) fun _ _ e => e.elim
    have fin : (∃ h' tk m' nx, s₃ = { s₁ with heap := h', toks := tk } ∧ Fr h₀ env.locals h' m' ∧ News h₀ env.locals h' ((s₁.heap.objs.size, oJ) :: nx) ∧ (∀ p ∈ nx, p.1 ≠ s₁.heap.objs.size) ∧ (∀ p ∈ keep, p ∈ nx) ∧ J (i + 1) m' nx) →
        ∃ k', k' < n + 1 - i ∧ ∃ h' tk m' nx' j, s₃ = { s₁ with heap := h', toks := tk } ∧ St j h' ∧ Fr h₀ env.locals h' m' ∧ News h₀ env.locals h' nx' ∧ (∀ p ∈ nx', p.1 ≠ s₁.heap.objs.size) ∧ (∀ p ∈ keep, p ∈ nx') ∧ J j m' nx' ∧ j ≤ n ∧ k' = n + 1 - j := by
      rintro ⟨h₄, tk₄, m₄, nx₄, rfl, F₄, N₄, off₄, hk₄, hJ₄⟩
      refine ⟨n + 1 - (i + 1), by omega, h₄, tk₄, m₄, nx₄, i + 1, rfl, ?_, F₄, fun p hp => N₄ p (.tail _ hp), off₄, hk₄, hJ₄, hlt, rfl⟩
      refine W.frame _ _ _ hst₁ fun b hb o e => ?_
      rcases hfp b hb with rfl | ⟨o', ho'⟩ | ⟨o', ho'⟩
      · rw [hoJ] at e; cases e
        exact (N₄ _ (.head _)).1
      · have := F₁.keep b o' ho'; rw [e] at this; cases this
        exact F₄.keep _ _ ho'
      · have := (N₁ _ (hk' _ ho')).1; rw [e] at this; cases this
        exact (N₄ _ (.tail _ (hk₄ _ ho'))).1
    cases f with
    | ret v => exact h₃
    | brk => exact h₃
    | next => exact fin h₃
    | cont => exact fin h₃
  · have hin : i = n := by omega
    subst hin
    refine W.done _ _ _ hst' fun h₁ tk₁ hk₁ => wpAny_execs_nil ?_
    exact done m' nx' h₁ tk₁ hJ' (fr_but F' hI0 hLI hk₁) (news_but N' off hk₁) hk'
theorem for_ruleF {w : World} {A : Around} {s : Shared} {h₀ : Heap} {env : Env} {target iter : Expr} {body : List Stmt} {pos : Pos} {Q : Flow → Shared → Prop} {m : Str → Option Value} (_ : Fr h₀ env.locals s.heap m)
    (h : wpAny (model PR w) A (eval iter env) (fun xv s₁ => wpAny (model PR w) A (pyIter xv) (fun it s₂ => LoopP w A h₀ env target body Q it s₂) NoE s₁) NoE s)
    (hs : ∀ x, foldedSetIterable iter env x = pure x := by intro _; rfl) (ht : ∀ it v, letOwnedTupleGo target it v = pure () := by intro _ _; rfl) :
    wpAny (model PR w) A (exec (.For target iter body [] pos) env) Q NoE s := for_rule h hs ht
local macro_rules | `(tactic| walk_at "exec For Name Call cons nil") => `(tactic| (k_dflt (refine for_ruleF (by assumption) ?_)))
local macro_rules | `(tactic| walk_at "exec For Name Name cons nil") => `(tactic| (k_dflt (refine for_ruleF (by assumption) ?_)))
def canon (ps : List (Str × Value)) (m : Str → Option Value) : Str → Option Value := fun y => match ps.lookup y with | some v => some v | none => m y
theorem canon_eq {ps : List (Str × Value)} {m : Str → Option Value} (h : ∀ p ∈ ps, m p.1 = some p.2) : canon ps m = m := by
  funext y
  unfold canon
  cases q : ps.lookup y with
  | none => rfl
  | some v =>
    dsimp only
    induction ps with
    | nil => cases q
    | cons p r ih =>
      obtain ⟨a, b⟩ := p
      rw [List.lookup_cons] at q
      split at q
      · rename_i e
        cases q
        rw [beq_iff_eq.mp e]
        exact (h _ (.head _)).symm
      · exact ih (fun p hp => h p (.tail _ hp)) q
theorem canon_fr {h₀ h : Heap} {L : Addr} {m : Str → Option Value} (ps : List (Str × Value)) (F : Fr h₀ L h m) (hp : ∀ p ∈ ps, m p.1 = some p.2) : Fr h₀ L h (canon ps m) := by
  rw [canon_eq hp]; exact F
section
variable {w : World} {A : Around} {s : Shared} {h₀ : Heap} {Q : Value → Shared → Prop} {E : Value → Shared → Prop}
theorem iter_range0 {r : Addr} {t u v : Tok} {n : Nat} (hh : A.handled = none) (hr : IsRange s.heap r 0 (n : Int) 1 t u v) (hn : n < 2 ^ 60)
    (h : ∀ it s₂, IterOn w A h₀ [] it n (fun i v => ∃ t, v = .int (i : Int) t) s s₂ → Q it s₂) : wpAny (model PR w) A (pyIter (.ref r)) Q E s := by
  have e : (fun (i : Nat) v => ∃ t, v = Value.int ((i : Int)) t) = fun (i : Nat) v => ∃ t, v = Value.int (0 + i) t := by funext i v; simp
  have e2 : Builtin.Range.rangeSize 0 (n : Int) 1 = (n : Int) := by
    unfold Builtin.Range.rangeSize
    simp
    omega
  have f0 : ∀ k : Int, 0 ≤ k → k < 2 ^ 60 → Builtin.Range.rangeFitsLong k = true := fun k h1 h2 => by
    unfold Builtin.Range.rangeFitsLong
    simp
    omega
  refine iter_range hh hr ?_ e2 (e ▸ h)
  unfold Builtin.Range.small
  rw [e2]
  simp [f0 0 (by omega) (by omega), f0 1 (by omega) (by omega), f0 n (by omega) (by omega)]
end
section
variable {w : World} {A : Around} {s : Shared} {h₀ : Heap} {env : Env} {target : Expr} {body : List Stmt} {Q : Flow → Shared → Prop} {m : Str → Option Value} {nx : List (Addr × Obj)}
theorem for_range0 {r : Addr} {t u v : Tok} {n : Nat} (F : Fr h₀ env.locals s.heap m) (N : News h₀ env.locals s.heap nx) (hr : IsRange s.heap r 0 (n : Int) 1 t u v) (hn : n < 2 ^ 60) (J : Nat → (Str → Option Value) → List (Addr × Obj) → Prop) (hJ : J 0 m nx)
    (turn : ∀ i t m nx I oI h tk, i < n → J i m nx → (∀ p ∈ nx, p.1 ≠ I) → Fr h₀ env.locals h m → News h₀ env.locals h ((I, oI) :: nx) →
      wpAny (model PR w) A (assign target env (.int (i : Nat) t)) (fun _ s' => wpAny (model PR w) A (execs body env) (TurnEnd h₀ env.locals [] I oI (J (i + 1)) s Q) NoE s') NoE { s with heap := h, toks := tk })
    (done : ∀ m nx h tk, J n m nx → Fr h₀ env.locals h m → News h₀ env.locals h nx → Q .next { s with heap := h, toks := tk }) (hh : A.handled = none := by rfl) :
    wpAny (model PR w) A (pyIter (.ref r)) (fun it s₂ => LoopP w A h₀ env target body Q it s₂) NoE s := by
  refine iter_range0 (h₀ := h₀) hh hr hn fun it s₂ hit => ⟨s, [], n, _, m, nx, J, hit, F, N, (fun _ h => nomatch h), hJ, ?_, fun m nx h tk a b c _ => done m nx h tk a b c⟩
  rintro i v m nx I oI h tk hi ⟨t, rfl⟩ hJ off _ F N
  exact turn i t m nx I oI h tk hi hJ off F N
theorem for_list {l : Addr} {vs : List Value} {nn : Nat} (F : Fr h₀ env.locals s.heap m) (N : News h₀ env.locals s.heap nx) (hl : s.heap.get? l = some (listOf vs.toArray nn)) (keep : List (Addr × Obj)) (hk : (∃ o, h₀.get? l = some o) ∨ ∃ o, (l, o) ∈ keep) (hkn : ∀ p ∈ keep, p ∈ nx) (J : Nat → (Str → Option Value) → List (Addr × Obj) → Prop) (hJ : J 0 m nx)
    (turn : ∀ i v m nx I oI h tk, vs[i]? = some v → J i m nx → (∀ p ∈ nx, p.1 ≠ I) → (∀ p ∈ keep, p ∈ nx) → Fr h₀ env.locals h m → News h₀ env.locals h ((I, oI) :: nx) →
      wpAny (model PR w) A (assign target env v) (fun _ s' => wpAny (model PR w) A (execs body env) (TurnEnd h₀ env.locals keep I oI (J (i + 1)) s Q) NoE s') NoE { s with heap := h, toks := tk })
    (done : ∀ m nx h tk, J vs.length m nx → (∀ p ∈ keep, p ∈ nx) → Fr h₀ env.locals h m → News h₀ env.locals h nx → Q .next { s with heap := h, toks := tk }) (hh : A.handled = none := by rfl) :
    wpAny (model PR w) A (pyIter (.ref l)) (fun it s₂ => LoopP w A h₀ env target body Q it s₂) NoE s := by
  refine iter_list (h₀ := h₀) (keep := keep) hh hl hk fun it s₂ hit => ⟨s, keep, vs.length, _, m, nx, J, hit, F, N, hkn, hJ, ?_, fun m nx h tk a b c d => done m nx h tk a d b c⟩
  intro i v m nx I oI h tk _ hv hJ off hk F N
  exact turn i v m nx I oI h tk hv hJ off hk F N
end
def HasI (m : Str → Option Value) (n : String) (x : Int) : Prop := ∃ t, m (Str.ofString n) = some (.int x t)
theorem HasI.of {m : Str → Option Value} {n : String} {x y : Int} {t : Tok} (e : m (Str.ofString n) = some (.int y t)) (h : y = x) : HasI m n x := ⟨t, h ▸ e⟩
def HasS (m : Str → Option Value) (n : String) (x : Str) : Prop := ∃ t, m (Str.ofString n) = some (.str x t)
theorem HasS.of {m : Str → Option Value} {n : String} {x y : Str} {t : Tok} (e : m (Str.ofString n) = some (.str y t)) (h : y = x) : HasS m n x := ⟨t, h ▸ e⟩
abbrev Has (m : Str → Option Value) (n : String) (v : Value) : Prop := m (Str.ofString n) = some v
theorem psC {m : Str → Option Value} {x : Str} {v : Value} {l : List (Str × Value)} (h1 : m x = some v) (h : ∀ p ∈ l, m p.1 = some p.2) : ∀ p ∈ (x, v) :: l, m p.1 = some p.2 := by
  simp only [List.forall_mem_cons]; exact ⟨h1, h⟩
theorem psN {m : Str → Option Value} : ∀ p ∈ ([] : List (Str × Value)), m p.1 = some p.2 := fun _ h => nomatch h
/- NC -/
/- a comprehension of one clause without tests, its element by an invariant over the ledger -/
def EltEnd (h₀ : Heap) (C : Addr) (w3 keep : List (Addr × Obj)) (J : List Value → List (Addr × Obj) → Prop) (s₁ : Shared) (ys : List Value) (y : Value) (s' : Shared) : Prop :=
  ∃ h' tk mc nx, s' = { s₁ with heap := h', toks := tk } ∧ Fr h₀ C h' mc ∧ News h₀ C h' (w3 ++ nx) ∧ (∀ p ∈ nx, ∀ q ∈ w3, p.1 ≠ q.1) ∧ (∀ p ∈ keep, p ∈ nx) ∧ J (ys ++ [y]) nx

def EltTurn (w : World) (A : Around) (h₀ : Heap) (env : Env) (scope : Scope) (cl : List (Str × Addr)) (x : Str) (elt : Expr) (keep : List (Addr × Obj)) (n : Nat) (P : Nat → Value → Prop) (J : Nat → List Value → List (Addr × Obj) → Prop) (s₁ : Shared) : Prop :=
  ∀ i v ys nx C mc oL D nD I oI h tk, i < n → P i v → J i ys nx → ys.length = i → (∀ p ∈ keep, p ∈ nx) → Fr h₀ C h mc → mc x = some v →
    News h₀ C h ([(env.locals, oL), (D, listOf (List.toArray ys) nD), (I, oI)] ++ nx) → (∀ p ∈ nx, ∀ q ∈ [(env.locals, oL), (D, listOf (List.toArray ys) nD), (I, oI)], p.1 ≠ q.1) →
    wpAny (model PR w) A (eval elt (compEnvC scope cl C env)) (EltEnd h₀ C [(env.locals, oL), (D, listOf (List.toArray ys) nD), (I, oI)] keep (J (i + 1)) s₁ ys) NoE { s₁ with heap := h, toks := tk }

def CompP (w : World) (A : Around) (h₀ : Heap) (env : Env) (scope : Scope) (cl : List (Str × Addr)) (x : Str) (elt : Expr) (R : Addr → Addr → Shared → Prop) (it : Value) (s₂ : Shared) : Prop :=
  ∃ (s₁ : Shared) (keep : List (Addr × Obj)) (n : Nat) (P : Nat → Value → Prop) (m : Str → Option Value) (nx : List (Addr × Obj)) (J : Nat → List Value → List (Addr × Obj) → Prop),
    IterOn w A h₀ keep it n P s₁ s₂ ∧ n ≤ sizeLine ∧ Fr h₀ env.locals s₁.heap m ∧ News h₀ env.locals s₁.heap nx ∧ (∀ p ∈ keep, p ∈ nx) ∧ J 0 [] nx ∧ EltTurn w A h₀ env scope cl x elt keep n P J s₁ ∧
    (∀ ys nx C mc D nD h tk, J n ys nx → ys.length = n → (∀ p ∈ keep, p ∈ nx) → Fr h₀ env.locals h m → News h₀ env.locals h ((D, listOf (List.toArray ys) nD) :: nx) → (∀ p ∈ nx, p.1 ≠ D) → h.Ns C mc → C ≠ env.locals → C ≠ D → (∀ p ∈ nx, p.1 ≠ C) → h₀.get? C = none →
      R D C { s₁ with heap := h, toks := tk })

theorem comp_core {w : World} {A : Around} {h₀ : Heap} {env : Env} {scope : Scope} {cl : List (Str × Addr)} {x : Str} {px pos : Pos} {elt iter : Expr} {s₂ : Shared} {it : Value} {RR : Value → Addr → Result → Shared → Prop}
    (hcell : ∀ y ∈ scope.names, y.2 ≠ .cell) (hkind : scope.kind = .function) (hx : scope.names.lookup x = some .local)
    (h : CompP w A h₀ env scope cl x elt (fun D C s' => RR (.ref D) C (.ok .next) s') it s₂) :
    wpAny (model PR w) A (newList []) (fun acc s₃ => wpAny (model PR w) A (newFunctionEnv scope env.globals cl [] env.qual none .none (some env)) (fun cenv s₄ =>
      codeAny (model PR w) A (.compStart (.ListComp elt [⟨.Name x px, iter, [], 0⟩] scope pos) 0 it acc { cenv with scope := relabel scope env }) (RR acc cenv.locals) s₄) NoE s₃) NoE s₂ := by
  obtain ⟨s₁, keep, n, P, m, nx, J, ⟨I, oI, fp, St, rfl, W, hst, rfl, rfl, hfr, hob, hfp⟩, hsz, F, N, hkeep, hJ, turn, done⟩ := h
  refine wpAny_newObj_type (wpAny_newFunctionEnv hcell (by intro y hy; simp at hy) (fun h₁ hns₁ hsb₁ => ?_) hkind)
  dsimp only at hns₁ hsb₁ ⊢
  generalize hI : s₁.heap.objs.size = I at *
  generalize hH1 : s₁.heap.push oI = H1 at *
  have hD : H1.objs.size = I + 1 := by rw [← hH1, Heap.size_push, hI]
  generalize hH2 : H1.push { cls := .type "list", dict := none, data := .seq ([] : List Value).toArray } = H2 at *
  have hC : H2.objs.size = I + 2 := by rw [← hH2, Heap.size_push, hD]
  generalize hDe : H1.objs.size = D at *
  generalize hCe : H2.objs.size = C at *
  replace hD : @Eq Nat D (I + 1) := hD
  replace hC : @Eq Nat C (I + 2) := hC
  have hL : @LT.lt Nat _ env.locals I := hI ▸ F.ns.lt
  have hI0 : h₀.get? I = none := hI ▸ size_none F
  have h0lt : ∀ b o, h₀.get? b = some o → @LT.lt Nat _ b I := fun b o e => hI ▸ Heap.lt_size (F.keep b o e)
  have nlt : ∀ p ∈ nx, @LT.lt Nat _ p.1 I := fun p hp => hI ▸ Heap.lt_size (N p hp).1
  have none_of : ∀ b, @LE.le Nat _ I b → h₀.get? b = none := fun b hb => by
    cases q : h₀.get? b with
    | none => rfl
    | some o => exact absurd (Nat.lt_of_lt_of_le (h0lt b o q) hb) (Nat.lt_irrefl _)
  have hD0 : h₀.get? D = none := none_of D (by omega)
  have hC0 : h₀.get? C = none := none_of C (by omega)
  have old : ∀ b o, @LT.lt Nat _ b I → s₁.heap.get? b = some o → h₁.get? b = some o := fun b o hb e => hsb₁.extBut b o (neN (by omega)) (Heap.get?_push_of_some _ (hH2 ▸ Heap.get?_push_of_some _ (hH1 ▸ Heap.get?_push_of_some _ e)))
  have hDobj : h₁.PlainList D #[] := ⟨_, hsb₁.extBut _ _ (neN (by omega)) (Heap.get?_push_of_some _ (by rw [← hH2, ← hDe]; exact Heap.get?_push_size _ rfl))⟩
  have hst₁ : St 0 h₁ := W.frame _ _ _ hst fun b _ o e => hsb₁.extBut b o (neN (by have : @LT.lt Nat _ b D := hDe ▸ Heap.lt_size e; omega)) (Heap.get?_push_of_some _ (hH2 ▸ Heap.get?_push_of_some _ e))
  have F₁ : Fr h₀ env.locals h₁ m := ⟨F.ns.at' fun o e => old _ o hL e, fun b o e => old b o (h0lt b o e) (F.keep b o e), F.above⟩
  have N₁ : News h₀ env.locals h₁ nx := fun p hp => ⟨old _ _ (nlt p hp) (N p hp).1, (N p hp).2⟩
  have above : h₀.objs.size ≤ C := Nat.le_trans F.above (by omega)
  have loop : ∀ s₃ : Shared, s₃ = { s₁ with heap := h₁, toks := s₁.toks + ([] : List (Str × Value)).length } →
      codeAny (model PR w) A (.compLoop (.ListComp elt [⟨.Name x px, iter, [], 0⟩] scope pos) 0 (.ref I) (.ref D) (compEnvC scope cl C env)) (RR (.ref D) C) s₃ := by
    rintro s₃ rfl
    refine codeAny_compLoop_tests (fun k s' => ∃ h' tk mc ys nx' i, s' = { s₁ with heap := h', toks := tk } ∧ St i h' ∧ h'.PlainList D (List.toArray ys) ∧ h'.Ns C mc ∧ Fr h₀ env.locals h' m ∧ News h₀ env.locals h' nx' ∧ (∀ p ∈ nx', p.1 ≠ I ∧ p.1 ≠ D ∧ p.1 ≠ C) ∧ (∀ p ∈ keep, p ∈ nx') ∧ J i ys nx' ∧ ys.length = i ∧ i ≤ n ∧ k = n + 1 - i) ?_ (n + 1)
      ⟨h₁, _, _, [], nx, 0, rfl, hst₁, hDobj, hns₁, F₁, N₁, (fun p hp => by have := nlt p hp; exact ⟨neN (by omega), neN (by omega), neN (by omega)⟩), hkeep, hJ, rfl, Nat.zero_le _, rfl⟩
    rintro k s' ⟨h', tk, mc, ys, nx', i, rfl, hst', hacc', hn', F', N', off, hk', hJ', hlen, hi, rfl⟩
    by_cases hlt : i < n
    · refine W.item i _ _ _ hlt hst' fun v h₂ tk₂ hP hst₂ hk₂ => ?_
      have hCI : C ∉ [I] := fun q => neN (a := C) (b := I) (by omega) (List.mem_singleton.mp q)
      have hDI : D ∉ [I] := fun q => neN (a := D) (b := I) (by omega) (List.mem_singleton.mp q)
      refine wpAny_assign_Name (wpAny_storeName_local (lookup_relabel_local hx) (hn'.at' fun o e => hk₂ _ o hCI e) (fun h₃ hn₃ hs₃ => ?_) (by simp [compEnvC, relabel, hkind]))
      have hn₃' : h₃.Ns C (fun y => if y = x then some v else mc y) := hn₃
      have hs₃' : Heap.SameBut C h₂ h₃ := hs₃
      refine wpAny_tests_nil (if_pos rfl ▸ ?_)
      obtain ⟨oL, esL, epL, hoL, hdL⟩ := F'.ns
      have up : ∀ b o, b ≠ I → b ≠ C → h'.get? b = some o → h₃.get? b = some o := fun b o h1 h2 e => (hs₃'.2 b h2).trans (hk₂ b o (by simp [h1]) e)
      have hst₃ : St (i + 1) h₃ := W.frame _ _ _ hst₂ fun b hb o e => by
        refine (hs₃'.2 b ?_).trans e
        rintro rfl
        rcases hfp b hb with e1 | ⟨o', ho'⟩ | ⟨o', ho'⟩
        · exact neN (by omega) e1
        · rw [hC0] at ho'; cases ho'
        · exact (off _ (hk' _ ho')).2.2 rfl
      obtain ⟨oJ, hoJ⟩ := hob _ _ hst₃
      obtain ⟨nD, hoD⟩ := hacc'
      have F₃ : Fr h₀ C h₃ (fun y => if y = x then some v else mc y) := ⟨hn₃', fun b o e => up b o (by rintro rfl; rw [hI0] at e; cases e) (by rintro rfl; rw [hC0] at e; cases e) (F'.keep b o e), above⟩
      have N₃ : News h₀ C h₃ ([(env.locals, oL), (D, listOf (List.toArray ys) nD), (I, oJ)] ++ nx') := fun p hp => by
        simp only [List.cons_append, List.nil_append, List.mem_cons] at hp
        rcases hp with rfl | rfl | rfl | hp
        · refine ⟨up _ _ (neN (by omega)) (neN (by omega)) hoL, neN (by show env.locals ≠ C; exact neN (by omega)), ?_⟩
          · cases q : h₀.get? env.locals with
            | none => rfl
            | some o => exact absurd (Nat.lt_of_lt_of_le (Heap.lt_size q) F.above) (Nat.lt_irrefl _)
        · exact ⟨up _ _ (neN (by show @Ne Nat D I; omega)) (neN (by show @Ne Nat D C; omega)) hoD, neN (by show @Ne Nat D C; omega), hD0⟩
        · exact ⟨hoJ, neN (by show @Ne Nat I C; omega), hI0⟩
        · exact ⟨up _ _ (off p hp).1 (off p hp).2.2 (N' p hp).1, (off p hp).2.2, (N' p hp).2.2⟩
      have off₃ : ∀ p ∈ nx', ∀ q ∈ [(env.locals, oL), (D, listOf (List.toArray ys) nD), (I, oJ)], p.1 ≠ q.1 := fun p hp q hq => by
        simp only [List.mem_cons, List.not_mem_nil, or_false] at hq
        rcases hq with rfl | rfl | rfl
        · exact (N' p hp).2.1
        · exact (off p hp).2.1
        · exact (off p hp).1
      refine wpAny_mono (turn i v ys nx' C _ oL D nD I oJ h₃ _ hlt hP hJ' hlen hk' F₃ (if_pos rfl) N₃ off₃) (fun y s₄ h₄ => ?_) fun _ _ e => e.elim
      obtain ⟨h₅, tk₅, mc₅, nx₅, rfl, F₅, N₅, off₅, hk₅, hJ₅⟩ := h₄
      have n1 := (N₅ (env.locals, oL) (by simp)).1
      have n2 := (N₅ (D, listOf (List.toArray ys) nD) (by simp)).1
      have n3 := (N₅ (I, oJ) (by simp)).1
      refine wpAny_list_append_plain (hsz := by simp; omega) ⟨nD, n2⟩ fun h₆ hl₆ hs₆ => ?_
      refine ⟨n + 1 - (i + 1), by omega, h₆, tk₅, mc₅, ys ++ [y], nx₅, i + 1, rfl, ?_, by simpa using hl₆, F₅.ns.sameBut hs₆ (neN (by omega)), ⟨?_, ?_, F.above⟩, ?_, ?_, hk₅, hJ₅, by simp [hlen], hlt, rfl⟩
      · refine W.frame _ _ _ hst₃ fun b hb o e => ?_
        rcases hfp b hb with rfl | ⟨o', ho'⟩ | ⟨o', ho'⟩
        · rw [hoJ] at e; cases e
          exact (hs₆.2 b (neN (by omega))).trans n3
        · have := F₃.keep b o' ho'; rw [e] at this; cases this
          exact (hs₆.2 b (by rintro rfl; rw [hD0] at ho'; cases ho')).trans (F₅.keep _ _ ho')
        · have := (N₃ _ (List.mem_append_right _ (hk' _ ho'))).1; rw [e] at this; cases this
          exact (hs₆.2 b (by exact off₅ _ (hk₅ _ ho') (D, listOf (List.toArray ys) nD) (by simp))).trans (N₅ _ (List.mem_append_right _ (hk₅ _ ho'))).1
      · exact ⟨oL, esL, epL, (hs₆.2 _ (neN (by omega))).trans n1, hdL⟩
      · exact fun b o e => (hs₆.2 b (by rintro rfl; rw [hD0] at e; cases e)).trans (F₅.keep b o e)
      · exact fun p hp => ⟨(hs₆.2 _ (off₅ p hp (D, listOf (List.toArray ys) nD) (by simp))).trans (N₅ p (List.mem_append_right _ hp)).1, off₅ p hp (env.locals, oL) (by simp), (N₅ p (List.mem_append_right _ hp)).2.2⟩
      · exact fun p hp => ⟨off₅ p hp (I, oJ) (by simp), off₅ p hp (D, listOf (List.toArray ys) nD) (by simp), (N₅ p (List.mem_append_right _ hp)).2.1⟩
    · have hin : i = n := by omega
      subst hin
      refine W.done _ _ _ hst' fun h₂ tk₂ hk₂ => ?_
      have hCI : C ∉ [I] := fun q => neN (a := C) (b := I) (by omega) (List.mem_singleton.mp q)
      have hDI : D ∉ [I] := fun q => neN (a := D) (b := I) (by omega) (List.mem_singleton.mp q)
      obtain ⟨nD, hoD⟩ := hacc'
      refine done ys nx' C mc D nD h₂ tk₂ hJ' hlen hk' (fr_but F' hI0 (neN (by omega)) hk₂) ?_ (fun p hp => (off p hp).2.1) (hn'.at' fun o e => hk₂ _ o hCI e) (neN (by omega)) (neN (by omega)) (fun p hp => (off p hp).2.2) hC0
      intro p hp
      rcases List.mem_cons.mp hp with rfl | hp
      · exact ⟨hk₂ _ _ hDI hoD, neN (by show @Ne Nat D env.locals; omega), hD0⟩
      · exact news_but N' (fun p hp => (off p hp).1) hk₂ p hp
  exact codeAny_compStart_list (loop _ rfl) (W.self 0 _ _ _ hst₁ (loop _ rfl))
def CompU (w : World) (A : Around) (h₀ : Heap) (env : Env) (scope : Scope) (cl : List (Str × Addr)) (x : Str) (elt : Expr) (g : Addr → (Str → Option Value) → (Str → Option Value)) (R : Addr → Shared → Prop) (it : Value) (s₂ : Shared) : Prop :=
  ∃ (s₁ : Shared) (keep : List (Addr × Obj)) (n : Nat) (P : Nat → Value → Prop) (m : Str → Option Value) (nx : List (Addr × Obj)) (J : Nat → List Value → List (Addr × Obj) → Prop),
    IterOn w A h₀ keep it n P s₁ s₂ ∧ n ≤ sizeLine ∧ Fr h₀ env.locals s₁.heap m ∧ News h₀ env.locals s₁.heap nx ∧ (∀ p ∈ keep, p ∈ nx) ∧ J 0 [] nx ∧ EltTurn w A h₀ env scope cl x elt keep n P J s₁ ∧
    (∀ ys nx D nD h tk, J n ys nx → ys.length = n → (∀ p ∈ keep, p ∈ nx) → Fr h₀ env.locals h (g D m) → News h₀ env.locals h ((D, listOf (List.toArray ys) nD) :: nx) → (∀ p ∈ nx, p.1 ≠ D) → R D { s₁ with heap := h, toks := tk })
theorem fr_same {h₀ h h' : Heap} {L C : Addr} {m : Str → Option Value} (F : Fr h₀ L h m) (hC : h₀.get? C = none) (hL : C ≠ L) (k : Heap.SameBut C h h') : Fr h₀ L h' m :=
  ⟨F.ns.sameBut k (Ne.symm hL), fun b o e => (k.2 b (by rintro rfl; rw [hC] at e; cases e)).trans (F.keep b o e), F.above⟩
theorem news_same {h₀ h h' : Heap} {L C : Addr} {nx : List (Addr × Obj)} (N : News h₀ L h nx) (off : ∀ p ∈ nx, p.1 ≠ C) (k : Heap.SameBut C h h') : News h₀ L h' nx :=
  fun p hp => ⟨(k.2 _ (off p hp)).trans (N p hp).1, (N p hp).2⟩
theorem comp_eval {w : World} {A : Around} {s : Shared} {h₀ : Heap} {env : Env} {scope : Scope} {cl : List (Str × Addr)} {x : Str} {px pos : Pos} {elt iter : Expr} {Q : Value → Shared → Prop}
    (hclos : closureFor scope env = pure cl) (hcell : ∀ y ∈ scope.names, y.2 ≠ .cell) (hkind : scope.kind = .function)
    (hnames : ∀ y ∈ scope.names, y.2 = .local → scope.names.lookup y.1 = some .local) (hx : scope.names.lookup x = some .local)
    (h : wpAny (model PR w) A (eval iter env) (fun xv s₁ => wpAny (model PR w) A (pyIter xv) (fun it s₂ => CompU w A h₀ env scope cl x elt (fun _ m => m) (fun D s' => Q (.ref D) s') it s₂) NoE s₁) NoE s)
    (hs : ∀ x, foldedSetIterable iter env x = pure x := by intro _; rfl) :
    wpAny (model PR w) A (eval (.ListComp elt [⟨.Name x px, iter, [], 0⟩] scope pos) env) Q NoE s := by
  rw [eval_ListComp]
  refine wpAny_comprehension_free (use := none) rfl hs hclos hkind hnames (wpAny_mono h (fun xv s₁ h₁ => wpAny_mono h₁ (fun it s₂ h₂ => ?_) fun _ _ e => e) fun _ _ e => e)
  obtain ⟨s₃, keep, n, P, m, nx, J, hit, hsz, F, N, hk, hJ, turn, done⟩ := h₂
  refine comp_core (RR := fun acc C => compPost (model PR w) A NoE none Q acc C) hcell hkind hx ⟨s₃, keep, n, P, m, nx, J, hit, hsz, F, N, hk, hJ, turn, ?_⟩
  intro ys nx' C mc D nD h' tk hJ' hlen hk' F' N' off hC hCL hCD hoff hC0
  refine ⟨mc, hC, fun h'' hs'' => done ys nx' D nD h'' tk hJ' hlen hk' (fr_same F' hC0 hCL hs'') (news_same N' (fun p hp => ?_) hs'') off⟩
  rcases List.mem_cons.mp hp with rfl | hp
  · exact Ne.symm hCD
  · exact hoff p hp
theorem comp_assign {w : World} {A : Around} {s : Shared} {h₀ : Heap} {env : Env} {scope : Scope} {cl : List (Str × Addr)} {x y : Str} {px py pos spos : Pos} {elt iter : Expr} {Q : Flow → Shared → Prop}
    (hsw : swapsWith (.ListComp elt [⟨.Name x px, iter, [], 0⟩] scope pos) (some (.Name y py)) spos.line env = pure true)
    (hclos : closureFor scope env = pure cl) (hcell : ∀ y ∈ scope.names, y.2 ≠ .cell) (hkind : scope.kind = .function)
    (hnames : ∀ y ∈ scope.names, y.2 = .local → scope.names.lookup y.1 = some .local) (hx : scope.names.lookup x = some .local)
    (hy : env.kindOf y = some .local) (hp : (env.scope.kind == .class || (env.scope.kind == .module && env.locals != env.globals)) = false)
    (h : wpAny (model PR w) A (eval iter env) (fun xv s₁ => wpAny (model PR w) A (pyIter xv) (fun it s₂ => CompU w A h₀ env scope cl x elt (fun D m z => if z = y then some (.ref D) else m z) (fun _ s' => Q .next s') it s₂) NoE s₁) NoE s)
    (hs : ∀ x, foldedSetIterable iter env x = pure x := by intro _; rfl) :
    wpAny (model PR w) A (exec (.Assign [.Name y py] (.ListComp elt [⟨.Name x px, iter, [], 0⟩] scope pos) spos) env) Q NoE s := by
  rw [exec_Assign_Name_used _ _ _ _ hsw]
  refine wpAny_bind (wpAny_standAt (wpAny_bind ?_))
  show wpAny _ A (do let _ ← comprehension (.ListComp elt [⟨.Name x px, iter, [], 0⟩] scope pos) scope env _ (newList []) false (eval iter env) (some (assign (.Name y py) env))) _ _ s
  refine wpAny_bind (wpAny_mono (wpAny_comprehension_free (use := some (assign (.Name y py) env)) (Q := fun _ s' => Q .next s') rfl hs hclos hkind hnames
    (wpAny_mono h (fun xv s₁ h₁ => wpAny_mono h₁ (fun it s₂ h₂ => ?_) fun _ _ e => e) fun _ _ e => e)) (fun _ s' hq => wpAny_pure (wpAny_pure hq)) fun _ _ e => e)
  obtain ⟨s₃, keep, n, P, m, nx, J, hit, hsz, F, N, hk, hJ, turn, done⟩ := h₂
  refine comp_core (RR := fun acc C => compPost (model PR w) A NoE (some (assign (.Name y py) env)) (fun _ s' => Q .next s') acc C) hcell hkind hx ⟨s₃, keep, n, P, m, nx, J, hit, hsz, F, N, hk, hJ, turn, ?_⟩
  intro ys nx' C mc D nD h' tk hJ' hlen hk' F' N' off hC hCL hCD hoff hC0
  show wpAny _ A (assign (.Name y py) env (.ref D)) _ _ _
  refine wpAny_assign_Name (wpAny_storeName_local hy F'.ns (fun h₂ hn₂ hs₂ => ?_) hp)
  refine ⟨mc, hC.sameBut hs₂ hCL, fun h₃ hs₃ => ?_⟩
  refine done ys nx' D nD h₃ _ hJ' hlen hk' (fr_same (F'.set hn₂ hs₂) hC0 hCL hs₃) (news_same (N'.set hs₂) (fun p hp => ?_) hs₃) off
  rcases List.mem_cons.mp hp with rfl | hp
  · exact Ne.symm hCD
  · exact hoff p hp
section
variable {w : World} {A : Around} {s : Shared} {h₀ : Heap} {env : Env} {scope : Scope} {cl : List (Str × Addr)} {x : Str} {elt : Expr} {g : Addr → (Str → Option Value) → (Str → Option Value)} {R : Addr → Shared → Prop} {m : Str → Option Value} {nx : List (Addr × Obj)}
theorem comp_range0 {r : Addr} {t u v : Tok} {n : Nat} (F : Fr h₀ env.locals s.heap m) (N : News h₀ env.locals s.heap nx) (hr : IsRange s.heap r 0 (n : Int) 1 t u v) (hn : n ≤ sizeLine) (J : Nat → List Value → List (Addr × Obj) → Prop) (hJ : J 0 [] nx)
    (turn : EltTurn w A h₀ env scope cl x elt [] n (fun i v => ∃ t, v = .int (i : Nat) t) J s)
    (done : ∀ ys nx D nD h tk, J n ys nx → ys.length = n → Fr h₀ env.locals h (g D m) → News h₀ env.locals h ((D, listOf (List.toArray ys) nD) :: nx) → (∀ p ∈ nx, p.1 ≠ D) → R D { s with heap := h, toks := tk }) (hh : A.handled = none := by rfl) :
    wpAny (model PR w) A (pyIter (.ref r)) (fun it s₂ => CompU w A h₀ env scope cl x elt g R it s₂) NoE s := by
  refine iter_range0 (h₀ := h₀) hh hr (by rw [sizeLine_eq] at hn; omega) fun it s₂ hit => ⟨s, [], n, _, m, nx, J, hit, hn, F, N, (fun _ h => nomatch h), hJ, turn, fun ys nx D nD h tk a b _ c d e => done ys nx D nD h tk a b c d e⟩
theorem comp_list {l : Addr} {vs : List Value} {nn : Nat} (F : Fr h₀ env.locals s.heap m) (N : News h₀ env.locals s.heap nx) (hl : s.heap.get? l = some (listOf vs.toArray nn)) (hn : vs.length ≤ sizeLine) (keep : List (Addr × Obj)) (hk : (∃ o, h₀.get? l = some o) ∨ ∃ o, (l, o) ∈ keep) (hkn : ∀ p ∈ keep, p ∈ nx) (J : Nat → List Value → List (Addr × Obj) → Prop) (hJ : J 0 [] nx)
    (turn : EltTurn w A h₀ env scope cl x elt keep vs.length (fun i v => vs[i]? = some v) J s)
    (done : ∀ ys nx D nD h tk, J vs.length ys nx → ys.length = vs.length → (∀ p ∈ keep, p ∈ nx) → Fr h₀ env.locals h (g D m) → News h₀ env.locals h ((D, listOf (List.toArray ys) nD) :: nx) → (∀ p ∈ nx, p.1 ≠ D) → R D { s with heap := h, toks := tk }) (hh : A.handled = none := by rfl) :
    wpAny (model PR w) A (pyIter (.ref l)) (fun it s₂ => CompU w A h₀ env scope cl x elt g R it s₂) NoE s := by
  refine iter_list (h₀ := h₀) (keep := keep) hh hl hk fun it s₂ hit => ⟨s, keep, vs.length, _, m, nx, J, hit, hn, F, N, hkn, hJ, turn, fun ys nx D nD h tk a b c d e f => done ys nx D nD h tk a b c d e f⟩
end
theorem comp_evalF {w : World} {A : Around} {s : Shared} {h₀ : Heap} {env : Env} {scope : Scope} {cl : List (Str × Addr)} {x : Str} {px pos : Pos} {elt iter : Expr} {Q : Value → Shared → Prop} {m : Str → Option Value} (_ : Fr h₀ env.locals s.heap m)
    (hclos : closureFor scope env = pure cl) (hcell : ∀ y ∈ scope.names, y.2 ≠ .cell) (hkind : scope.kind = .function)
    (hnames : ∀ y ∈ scope.names, y.2 = .local → scope.names.lookup y.1 = some .local) (hx : scope.names.lookup x = some .local)
    (h : wpAny (model PR w) A (eval iter env) (fun xv s₁ => wpAny (model PR w) A (pyIter xv) (fun it s₂ => CompU w A h₀ env scope cl x elt (fun _ m => m) (fun D s' => Q (.ref D) s') it s₂) NoE s₁) NoE s)
    (hs : ∀ x, foldedSetIterable iter env x = pure x := by intro _; rfl) :
    wpAny (model PR w) A (eval (.ListComp elt [⟨.Name x px, iter, [], 0⟩] scope pos) env) Q NoE s := comp_eval hclos hcell hkind hnames hx h hs
theorem comp_assignF {w : World} {A : Around} {s : Shared} {h₀ : Heap} {env : Env} {scope : Scope} {cl : List (Str × Addr)} {x y : Str} {px py pos spos : Pos} {elt iter : Expr} {Q : Flow → Shared → Prop} {m : Str → Option Value} (_ : Fr h₀ env.locals s.heap m)
    (hsw : swapsWith (.ListComp elt [⟨.Name x px, iter, [], 0⟩] scope pos) (some (.Name y py)) spos.line env = pure true)
    (hclos : closureFor scope env = pure cl) (hcell : ∀ y ∈ scope.names, y.2 ≠ .cell) (hkind : scope.kind = .function)
    (hnames : ∀ y ∈ scope.names, y.2 = .local → scope.names.lookup y.1 = some .local) (hx : scope.names.lookup x = some .local)
    (hy : env.kindOf y = some .local) (hp : (env.scope.kind == .class || (env.scope.kind == .module && env.locals != env.globals)) = false)
    (h : wpAny (model PR w) A (eval iter env) (fun xv s₁ => wpAny (model PR w) A (pyIter xv) (fun it s₂ => CompU w A h₀ env scope cl x elt (fun D m z => if z = y then some (.ref D) else m z) (fun _ s' => Q .next s') it s₂) NoE s₁) NoE s)
    (hs : ∀ x, foldedSetIterable iter env x = pure x := by intro _; rfl) :
    wpAny (model PR w) A (exec (.Assign [.Name y py] (.ListComp elt [⟨.Name x px, iter, [], 0⟩] scope pos) spos) env) Q NoE s := comp_assign hsw hclos hcell hkind hnames hx hy hp h hs
local macro_rules | `(tactic| walk_at "eval ListComp") => `(tactic| (k_dflt (refine comp_evalF (by assumption) (by with_unfolding_all rfl) (by decide) (by rfl) (by decide) (by rfl) ?_)))
/- NT1 -/
abbrev prD (l h : Int) : PyData := .tuple [.int l, .int h]
def codeF (a b i : Int) : Int := Builtin.bitAnd (a.fdiv (2 ^ i.toNat)) 1 + 2 * Builtin.bitAnd (b.fdiv (2 ^ i.toNat)) 1
set_option maxHeartbeats 4000000 in
theorem code_ct (w : World) (n a b i : Int) (hi : 0 ≤ i ∧ i < 64) : Pu w 21 1 [.tuple [.int n, .int a, .int b], .int i] (.int (codeF a b i)) := by
  intro dp un gd fr s vs Q E G hpre hd hu hret
  walk_at "ct_open"
  ( (have X9 := Gd.k (by assumption)); (obtain ⟨_, _, _, _, _, T9⟩ := Gd.t (by assumption)); (refine wpAny_call ?_); (refine' enter (by assumption) X9 ?k6 ?k7 ?k8 ?k9 ?kB ?_ ?c2 ?c3 ?c4 ?c5); (case k6 => k_is); (case k7 => k_is); (case k8 => omega); (case k9 => rfl); (case kB => exact locs rfl); (case c2 => exact rfl); (case c3 => exact rfl); (case c4 => exact rfl); (case c5 => decide); intro L9 h9 tk9 fr9 F9 N9; (dsimp only [List.map, List.zip, List.zipWith, List.reverse, List.reverseAux] at F9 ⊢); (try k_fold))
  k_steps
  all_goals (refine hret _ _ _ (Fr.keep (by assumption)) ⟨_, fresh_of (by assumption), ?_⟩; unfold codeF; walk_at "dt")

def driveBit (v s0 s1 : Int) : PyData := if v = 0 then prD (-s0) (-s0) else if v = 1 then prD s1 s1 else if v = 2 then prD 0 0 else prD (-s0) s1
set_option maxHeartbeats 4000000 in
theorem drive_bit_ct (w : World) (v s0 s1 : Int) : Pu w 35 1 [.int v, .int s0, .int s1] (driveBit v s0 s1) := by
  intro dp un gd fr s vs Q E G hpre hd hu hret
  walk_at "ct_open"
  ( (have X9 := Gd.k (by assumption)); (obtain ⟨_, _, _, _, _, T9⟩ := Gd.t (by assumption)); (refine wpAny_call ?_); (refine' enter (by assumption) X9 ?k6 ?k7 ?k8 ?k9 ?kB ?_ ?c2 ?c3 ?c4 ?c5); (case k6 => k_is); (case k7 => k_is); (case k8 => omega); (case k9 => rfl); (case kB => exact locs rfl); (case c2 => exact rfl); (case c3 => exact rfl); (case c4 => exact rfl); (case c5 => decide); intro L9 h9 tk9 fr9 F9 N9; (dsimp only [List.map, List.zip, List.zipWith, List.reverse, List.reverseAux] at F9 ⊢); (try k_fold))
  k_steps
  all_goals (refine hret _ _ _ (Fr.keep (by assumption)) ⟨_, fresh_of (by assumption), ?_⟩; simp only [driveBit, *]; walk_at "dt")
abbrev absF (x : Int) : Int := if x < 0 then -x else x
abbrev maxF (x y : Int) : Int := if y > x then y else x
abbrev minF (x y : Int) : Int := if y < x then y else x
def strongerF (p q : Int) (tie : Bool) : Int := if absF p > absF q then p else if absF q > absF p then q else if tie then minF p q else maxF p q
set_option maxHeartbeats 4000000 in
theorem stronger_ct (w : World) (p q : Int) (tie : Bool) : Pu w 47 1 [.int p, .int q, .bool tie] (.int (strongerF p q tie)) := by
  intro dp un gd fr s vs Q E G hpre hd hu hret
  walk_at "ct_open"
  ( (have X9 := Gd.k (by assumption)); (obtain ⟨_, _, _, _, _, T9⟩ := Gd.t (by assumption)); (refine wpAny_call ?_); (refine' enter (by assumption) X9 ?k6 ?k7 ?k8 ?k9 ?kB ?_ ?c2 ?c3 ?c4 ?c5); (case k6 => k_is); (case k7 => k_is); (case k8 => omega); (case k9 => rfl); (case kB => exact locs rfl); (case c2 => exact rfl); (case c3 => exact rfl); (case c4 => exact rfl); (case c5 => decide); intro L9 h9 tk9 fr9 F9 N9; (dsimp only [List.map, List.zip, List.zipWith, List.reverse, List.reverseAux] at F9 ⊢); (try k_fold))
  k_steps
  all_goals (refine hret _ _ _ (Fr.keep (by assumption)) ⟨_, fresh_of (by assumption), dt_int ?_⟩; unfold strongerF)
  all_goals first
    | rw [if_pos (show absF p > absF q by assumption)]
    | rw [if_neg (show ¬ absF p > absF q by assumption), if_pos (show absF q > absF p by assumption)]
    | rw [if_neg (show ¬ absF p > absF q by assumption), if_neg (show ¬ absF q > absF p by assumption), if_pos (show tie = true by assumption)]
    | rw [if_neg (show ¬ absF p > absF q by assumption), if_neg (show ¬ absF q > absF p by assumption), if_neg (ne_true_of_eq_false (show tie = false by assumption))]
/- NT2 -/
def joinF (kind : Str) (l h l' h' : Int) : PyData := prD (strongerF l l' (kind != Str.ofString "wor")) (strongerF h h' (kind == Str.ofString "wand"))
set_option maxHeartbeats 4000000 in
theorem join_ct (w : World) (kind : Str) (l h l' h' : Int) : Pu w 54 2 [.str kind, prD l h, prD l' h'] (joinF kind l h l' h') := by
  intro dp un gd fr s vs Q E G hpre hd hu hret
  walk_at "ct_open"
  ( (have X9 := Gd.k (by assumption)); (obtain ⟨_, _, _, _, _, T9⟩ := Gd.t (by assumption)); (refine wpAny_call ?_); (refine' enter (by assumption) X9 ?k6 ?k7 ?k8 ?k9 ?kB ?_ ?c2 ?c3 ?c4 ?c5); (case k6 => k_is); (case k7 => k_is); (case k8 => omega); (case k9 => rfl); (case kB => exact locs rfl); (case c2 => exact rfl); (case c3 => exact rfl); (case c4 => exact rfl); (case c5 => decide); intro L9 h9 tk9 fr9 F9 N9; (dsimp only [List.map, List.zip, List.zipWith, List.reverse, List.reverseAux] at F9 ⊢); (try k_fold))
  k_steps
  all_goals (refine hret _ _ _ (Fr.keep (by assumption)) ⟨_, fresh_of (by assumption), ?_⟩; unfold joinF; walk_at "dt")
def restF (kind : Str) (held : Int) : PyData :=
  if kind == Str.ofString "tri0" then prD (-5) (-5) else if kind == Str.ofString "tri1" then prD 5 5 else if kind == Str.ofString "supply0" then prD (-7) (-7) else
  if kind == Str.ofString "supply1" then prD 7 7 else if kind == Str.ofString "trireg" then driveBit held 2 2 else prD 0 0
set_option maxHeartbeats 4000000 in
theorem rest_drive_ct (w : World) (kind : Str) (held : Int) : Pu w 61 2 [.str kind, .int held] (restF kind held) := by
  intro dp un gd fr s vs Q E G hpre hd hu hret
  walk_at "ct_open"
  ( (have X9 := Gd.k (by assumption)); (obtain ⟨_, _, _, _, _, T9⟩ := Gd.t (by assumption)); (refine wpAny_call ?_); (refine' enter (by assumption) X9 ?k6 ?k7 ?k8 ?k9 ?kB ?_ ?c2 ?c3 ?c4 ?c5); (case k6 => k_is); (case k7 => k_is); (case k8 => omega); (case k9 => rfl); (case kB => exact locs rfl); (case c2 => exact rfl); (case c3 => exact rfl); (case c4 => exact rfl); (case c5 => decide); intro L9 h9 tk9 fr9 F9 N9; (dsimp only [List.map, List.zip, List.zipWith, List.reverse, List.reverseAux] at F9 ⊢); (try k_fold))
  k_steps
  all_goals (refine hret _ _ _ (Fr.keep (by assumption)) ⟨_, fresh_of (by assumption), ?_⟩)
  all_goals (simp only [restF, *, reduceIte, Bool.false_eq_true]; walk_at "dt")

set_option maxHeartbeats 4000000 in
theorem held_none_ct (w : World) (place : Int) : Pu w 68 1 [.none, .int place] (.int 3) := by
  intro dp un gd fr s vs Q E G hpre hd hu hret
  walk_at "ct_open"
  ( (have X9 := Gd.k (by assumption)); (obtain ⟨_, _, _, _, _, T9⟩ := Gd.t (by assumption)); (refine wpAny_call ?_); (refine' enter (by assumption) X9 ?k6 ?k7 ?k8 ?k9 ?kB ?_ ?c2 ?c3 ?c4 ?c5); (case k6 => k_is); (case k7 => k_is); (case k8 => omega); (case k9 => rfl); (case kB => exact locs rfl); (case c2 => exact rfl); (case c3 => exact rfl); (case c4 => exact rfl); (case c5 => decide); intro L9 h9 tk9 fr9 F9 N9; (dsimp only [List.map, List.zip, List.zipWith, List.reverse, List.reverseAux] at F9 ⊢); (try k_fold))
  k_steps
  all_goals (refine hret _ _ _ (Fr.keep (by assumption)) ⟨_, fresh_of (by assumption), ?_⟩; walk_at "dt")
theorem DtA.len {P : Addr → Obj → Prop} : ∀ {vs : List Value} {ds : List PyData}, DtA P vs ds → vs.length = ds.length
  | _, _, .nil => rfl
  | _, _, .cons _ r => by rw [List.length_cons, List.length_cons, DtA.len r]
theorem DtA.get {P : Addr → Obj → Prop} : ∀ {vs : List Value} {ds : List PyData} {k : Nat} {d : PyData}, DtA P vs ds → ds[k]? = some d → ∃ v, vs[k]? = some v ∧ Dt P v d
  | _, _, 0, _, .cons h _, e => by
    simp only [List.getElem?_cons_zero, Option.some.injEq] at e
    exact ⟨_, by simp, e ▸ h⟩
  | _, _, k + 1, _, .cons _ r, e => by
    simp only [List.getElem?_cons_succ] at e
    obtain ⟨v, h1, h2⟩ := DtA.get r e
    exact ⟨v, by simpa using h1, h2⟩
theorem sub_listH {w : World} {A : Around} {s : Shared} {E : Value → Shared → Prop} {value slice : Expr} {l : Addr} {vs : List Value} {n : Nat} {k : Int} {u : Tok} {ds : List PyData} {d : PyData} {Q : Value → Shared → Prop}
    (hl : s.heap.get? l = some (listOf vs.toArray n)) (hr : RdA s.heap vs ds) (h0 : 0 ≤ k) (hhi : k < 2 ^ 63) (hx : ds[k.toNat]? = some d) (h : ∀ v, Rd s.heap v d → Q v s)
    (hs : subscripted slice false (.ref l) (.int k u) = operate [.ref l, .int k u] (getItem (.ref l) (.int k u)) := by with_unfolding_all rfl) :
    wpAny (model PR w) A (subscriptTail value slice (.ref l) (.int k u)) Q E s := by
  obtain ⟨v, h1, h2⟩ := hr.get hx
  have hL := isList_of hl
  exact tail_any hL.typeIs slot_list_getitem.lookup (wpAny_getItem_list hL h0 hhi (by simpa using h1) (h v h2)) hs
set_option maxHeartbeats 4000000 in
theorem held_list_ct (w : World) (ns : List Int) (place x : Int) (h0 : 0 ≤ place) (hp : place < 2 ^ 63) (hx : ns[place.toNat]? = some x) : Pu w 68 1 [.list (ns.map .int), .int place] (.int x) := by
  intro dp un gd fr s vs Q E G hpre hd hu hret
  walk_at "ct_open"
  rename DtA _ _ _ => hr
  rename _ = some (listOf _ _) => ho
  ( (have X9 := Gd.k (by assumption)); (obtain ⟨_, _, _, _, _, T9⟩ := Gd.t (by assumption)); (refine wpAny_call ?_); (refine' enter (by assumption) X9 ?k6 ?k7 ?k8 ?k9 ?kB ?_ ?c2 ?c3 ?c4 ?c5); (case k6 => k_is); (case k7 => k_is); (case k8 => omega); (case k9 => rfl); (case kB => exact locs rfl); (case c2 => exact rfl); (case c3 => exact rfl); (case c4 => exact rfl); (case c5 => decide); intro L9 h9 tk9 fr9 F9 N9; (dsimp only [List.map, List.zip, List.zipWith, List.reverse, List.reverseAux] at F9 ⊢); (try k_fold))
  k_steps
  refine sub_listH (Fr.keep (by assumption) _ _ ho) (RdA.keeps (Fr.keep (by assumption)) hr) h0 hp (by rw [List.getElem?_map, hx]; rfl) fun v hv => ?_
  cases hv
  exact hret _ _ _ (Fr.keep (by assumption)) ⟨_, fresh_of (by assumption), by walk_at "dt"⟩
/- NT3 -/
def pairCode (l h : Int) : Int := if 0 < l then 1 else if h < 0 then 0 else if l = 0 ∧ h = 0 then 2 else 3
set_option maxHeartbeats 4000000 in
theorem pair_code_ct (w : World) (l h : Int) : Pu w 82 1 [prD l h] (.int (pairCode l h)) := by
  intro dp un gd fr s vs Q E G hpre hd hu hret
  walk_at "ct_open"
  ( (have X9 := Gd.k (by assumption)); (obtain ⟨_, _, _, _, _, T9⟩ := Gd.t (by assumption)); (refine wpAny_call ?_); (refine' enter (by assumption) X9 ?k6 ?k7 ?k8 ?k9 ?kB ?_ ?c2 ?c3 ?c4 ?c5); (case k6 => k_is); (case k7 => k_is); (case k8 => omega); (case k9 => rfl); (case kB => exact locs rfl); (case c2 => exact rfl); (case c3 => exact rfl); (case c4 => exact rfl); (case c5 => decide); intro L9 h9 tk9 fr9 F9 N9; (dsimp only [List.map, List.zip, List.zipWith, List.reverse, List.reverseAux] at F9 ⊢); (try k_fold))
  k_steps
  all_goals (refine hret _ _ _ (Fr.keep (by assumption)) ⟨_, fresh_of (by assumption), dt_int ?_⟩; unfold pairCode)
  all_goals (first
    | rw [if_pos (show 0 < l by assumption)]
    | rw [if_neg (show ¬ 0 < l by assumption), if_pos (show h < 0 by assumption)]
    | rw [if_neg (show ¬ 0 < l by assumption), if_neg (show ¬ h < 0 by assumption), if_pos ⟨show l = 0 by assumption, show h = 0 by assumption⟩]
    | rw [if_neg (show ¬ 0 < l by assumption), if_neg (show ¬ h < 0 by assumption), if_neg (fun q => absurd q.2 (show ¬ h = 0 by assumption))]
    | rw [if_neg (show ¬ 0 < l by assumption), if_neg (show ¬ h < 0 by assumption), if_neg (fun q => absurd q.1 (show ¬ l = 0 by assumption))])
def nameList : List Str := [Str.ofString "Hi", Str.ofString "Sm", Str.ofString "Me", Str.ofString "We", Str.ofString "La", Str.ofString "Pu", Str.ofString "St", Str.ofString "Su"]
def nameF (s : Int) : Str := nameList.getD s.toNat (Str.ofString "")
set_option maxHeartbeats 4000000 in
theorem strength_name_ct (w : World) (x : Int) (hx : 0 ≤ x ∧ x < 8) : Pu w 94 1 [.int x] (.str (nameF x)) := by
  have x8 := eight hx
  intro dp un gd fr s vs Q E G hpre hd hu hret
  walk_at "ct_open"
  ( (have X9 := Gd.k (by assumption)); (obtain ⟨_, _, _, _, _, T9⟩ := Gd.t (by assumption)); (refine wpAny_call ?_); (refine' enter (by assumption) X9 ?k6 ?k7 ?k8 ?k9 ?kB ?_ ?c2 ?c3 ?c4 ?c5); (case k6 => k_is); (case k7 => k_is); (case k8 => omega); (case k9 => rfl); (case kB => exact locs rfl); (case c2 => exact rfl); (case c3 => exact rfl); (case c4 => exact rfl); (case c5 => decide); intro L9 h9 tk9 fr9 F9 N9; (dsimp only [List.map, List.zip, List.zipWith, List.reverse, List.reverseAux] at F9 ⊢); (try k_fold))
  k_steps
  all_goals (try subst_vars)
  all_goals (refine hret _ _ _ (Fr.keep (by assumption)) ⟨_, fresh_of (by assumption), dt_str (by rfl)⟩)

theorem nameF_len (x : Int) : (nameF x).length ≤ 2 := by
  unfold nameF
  rcases h : x.toNat with _ | _ | _ | _ | _ | _ | _ | _ | n <;> first | decide | (simp only [nameList, List.getD_eq_getElem?_getD]; simp; decide)
theorem nf_add {x : Int} {y : Str} (hy : y.length ≤ 100) : (nameF x).length + y.length ≤ sizeLine := by
  have := nameF_len x; rw [sizeLine_eq]; omega
theorem txt_small {n : Int} (h : 0 ≤ n ∧ n ≤ 3) : (Str.ofString (toString n)).length ≤ 100 := by
  have : n = 0 ∨ n = 1 ∨ n = 2 ∨ n = 3 := by omega
  rcases this with rfl | rfl | rfl | rfl <;> decide
local macro_rules | `(tactic| walk_at "binaryOp Add str str") => `(tactic| (k_dflt ((with_reducible show wpAny _ _ (binaryOp Operator.Add (Value.str (nameF _) _) (Value.str _ _)) _ _ _); (refine add_str (hsz := nf_add ?hy) ?_); (case hy => first | decide | exact txt_small (by omega)); intro _ _)))
def strengthText (l h : Int) : Str :=
  if pairCode l h = 2 then Str.ofString "HiZ"
  else if pairCode l h = 3 then
    if l = 0 then nameF h ++ Str.ofString "H"
    else if h = 0 then nameF (-l) ++ Str.ofString "L"
    else if -l = h then nameF h ++ Str.ofString "X"
    else Str.ofString (toString (-l)) ++ Str.ofString (toString h) ++ Str.ofString "X"
  else if maxF (absF l) (absF h) = minF (absF l) (absF h) then nameF (maxF (absF l) (absF h)) ++ Str.ofString (toString (pairCode l h))
  else Str.ofString (toString (maxF (absF l) (absF h))) ++ Str.ofString (toString (minF (absF l) (absF h))) ++ Str.ofString (toString (pairCode l h))
theorem ab_lt {x : Int} (h : -8 < x ∧ x < 8) : 0 ≤ absF x ∧ absF x < 8 := by unfold absF; split <;> omega
theorem mx_lt {x y : Int} (h : 0 ≤ x ∧ x < 8) (g : 0 ≤ y ∧ y < 8) : 0 ≤ maxF x y ∧ maxF x y < 8 := by unfold maxF; split <;> assumption
theorem mn_lt {x y : Int} (h : 0 ≤ x ∧ x < 8) (g : 0 ≤ y ∧ y < 8) : 0 ≤ minF x y ∧ minF x y < 8 := by unfold minF; split <;> assumption
theorem pc_lt (l h : Int) : 0 ≤ pairCode l h ∧ pairCode l h ≤ 3 := by unfold pairCode; (repeat' split) <;> decide
theorem pc_3 {l h : Int} : pairCode l h = 3 → l ≤ 0 ∧ 0 ≤ h := by
  unfold pairCode; split
  · intro e; cases e
  · split
    · intro e; cases e
    · exact fun _ => ⟨Int.not_lt.mp ‹_›, Int.not_lt.mp ‹_›⟩
theorem up8 {x : Int} (h : 0 ≤ x) : -8 < x := by omega
set_option maxHeartbeats 4000000 in
theorem strength_text_ct (w : World) (l h : Int) (hl : -8 < l ∧ l < 8) (hh : -8 < h ∧ h < 8) : Pu w 101 2 [prD l h] (.str (strengthText l h)) := by
  intro dp un gd fr s vs Q E G hpre hd hu hret
  obtain ⟨hp0, hp1⟩ := pc_lt l h
  have hp8 : pairCode l h < 8 := by omega
  have hp9 := up8 hp0
  have hp2 := pc_3 (l := l) (h := h)
  obtain ⟨m0, m1⟩ := mx_lt (ab_lt hl) (ab_lt hh)
  obtain ⟨n0, n1⟩ := mn_lt (ab_lt hl) (ab_lt hh)
  have m9 := up8 m0
  have n9 := up8 n0
  obtain ⟨l0, l1⟩ := hl
  obtain ⟨h0, h1⟩ := hh
  have l2 : -8 < -l := by omega
  have l3 : -l < 8 := by omega
  walk_at "ct_open"
  ( (have X9 := Gd.k (by assumption)); (obtain ⟨_, _, _, _, _, T9⟩ := Gd.t (by assumption)); (refine wpAny_call ?_); (refine' enter (by assumption) X9 ?k6 ?k7 ?k8 ?k9 ?kB ?_ ?c2 ?c3 ?c4 ?c5); (case k6 => k_is); (case k7 => k_is); (case k8 => omega); (case k9 => rfl); (case kB => exact locs rfl); (case c2 => exact rfl); (case c3 => exact rfl); (case c4 => exact rfl); (case c5 => decide); intro L9 h9 tk9 fr9 F9 N9; (dsimp only [List.map, List.zip, List.zipWith, List.reverse, List.reverseAux] at F9 ⊢); (try k_fold))
  k_steps
  all_goals (refine hret _ _ _ (Fr.keep (by assumption)) ⟨_, fresh_of (by assumption), dt_str ?_⟩)
  all_goals (unfold strengthText; first
    | rw [if_pos (show pairCode l h = 2 by assumption)]
    | rw [if_neg (show ¬ pairCode l h = 2 by assumption), if_pos (show pairCode l h = 3 by assumption), if_pos (show l = 0 by assumption)]
    | rw [if_neg (show ¬ pairCode l h = 2 by assumption), if_pos (show pairCode l h = 3 by assumption), if_neg (show ¬ l = 0 by assumption), if_pos (show h = 0 by assumption)]
    | rw [if_neg (show ¬ pairCode l h = 2 by assumption), if_pos (show pairCode l h = 3 by assumption), if_neg (show ¬ l = 0 by assumption), if_neg (show ¬ h = 0 by assumption), if_pos (show -l = h by assumption)]
    | rw [if_neg (show ¬ pairCode l h = 2 by assumption), if_pos (show pairCode l h = 3 by assumption), if_neg (show ¬ l = 0 by assumption), if_neg (show ¬ h = 0 by assumption), if_neg (show ¬ -l = h by assumption)]
    | rw [if_neg (show ¬ pairCode l h = 2 by assumption), if_neg (show ¬ pairCode l h = 3 by assumption), if_pos (show maxF (absF l) (absF h) = minF (absF l) (absF h) by assumption)]
    | rw [if_neg (show ¬ pairCode l h = 2 by assumption), if_neg (show ¬ pairCode l h = 3 by assumption), if_neg (show ¬ maxF (absF l) (absF h) = minF (absF l) (absF h) by assumption)])

/- NT4 -/
local macro_rules | `(tactic| walk_at "eval Dict") => `(tactic| (k_here; k_dflt (refine' kdn_str ?q ?F ?N ?b ?a ?l ?e ?n ?_; (case q => rfl); (case F => k_asm); (case N => first | k_asm | exact News.nil); (case b => exact Top.nolimit (by k_asm)); (case a => rfl); (case l => rfl); (case e => exact List.cons_ne_nil _ _); (case n => exact Nat.le_of_ble_eq_true rfl)); intro d9 h9 o9 F9 N9 l9 lo9 hd9; (try k_lt l9)))
def lawRest (kind : Str) (held : Int) : PyData :=
  if kind == Str.ofString "trireg" then (if held = 0 then prD (-2) (-2) else if held = 1 then prD 2 2 else if held = 2 then prD 0 0 else prD (-2) 2)
  else if kind == Str.ofString "tri0" then prD (-5) (-5) else if kind == Str.ofString "tri1" then prD 5 5 else if kind == Str.ofString "supply0" then prD (-7) (-7) else if kind == Str.ofString "supply1" then prD 7 7 else prD 0 0
theorem find_cons_ite {β : Type} (p : Str × β) (l : List (Str × β)) (k : Str) : (p :: l).find? (fun kv => decide (kv.1 = k)) = if k = p.1 then some p else l.find? (fun kv => decide (kv.1 = k)) := by
  rw [List.find?_cons]
  by_cases e : k = p.1
  · subst e; simp
  · rw [if_neg e, decide_eq_false (fun q => e q.symm)]
theorem rest_val {P : Addr → Obj → Prop} {k a1 a2 a3 a4 : Str} {t1 t2 t3 t4 : Tok} {v1 v2 v3 v4 v0 : Value} {d1 d2 d3 d4 d0 : PyData} (h1 : Dt P v1 d1) (h2 : Dt P v2 d2) (h3 : Dt P v3 d3) (h4 : Dt P v4 d4) (h0 : Dt P v0 d0) :
    Dt P ((PySem.valueAt (strPairs [(.str a1 t1, v1), (.str a2 t2, v2), (.str a3 t3, v3), (.str a4 t4, v4)]) k).getD v0) (if k == a1 then d1 else if k == a2 then d2 else if k == a3 then d3 else if k == a4 then d4 else d0) := by
  show Dt P (((([(a1, v1), (a2, v2), (a3, v3), (a4, v4)] : List (Str × Value)).find? fun kv => decide (kv.1 = k)).map (·.2)).getD v0) _
  rw [find_cons_ite, find_cons_ite, find_cons_ite, find_cons_ite]
  simp only [beq_iff_eq]
  (repeat' split) <;> first | assumption | (simp only [List.find?_nil]; assumption)
set_option maxHeartbeats 4000000 in
theorem law_rest_ct (w : World) (kind : Str) (held : Int) (hh : 0 ≤ held ∧ held < 4) : Pu w 150 1 [.str kind, .int held] (lawRest kind held) := by
  intro dp un gd fr s vs Q E G hpre hd hu hret
  walk_at "ct_open"
  ( (have X9 := Gd.k (by assumption)); (obtain ⟨_, _, _, _, _, T9⟩ := Gd.t (by assumption)); (refine wpAny_call ?_); (refine' enter (by assumption) X9 ?k6 ?k7 ?k8 ?k9 ?kB ?_ ?c2 ?c3 ?c4 ?c5); (case k6 => k_is); (case k7 => k_is); (case k8 => omega); (case k9 => rfl); (case kB => exact locs rfl); (case c2 => exact rfl); (case c3 => exact rfl); (case c4 => exact rfl); (case c5 => decide); intro L9 h9 tk9 fr9 F9 N9; (dsimp only [List.map, List.zip, List.zipWith, List.reverse, List.reverseAux] at F9 ⊢); (try k_fold))
  k_steps
  all_goals try (refine hret _ _ _ (Fr.keep (by assumption)) ⟨_, fresh_of (by assumption), ?_⟩; simp only [lawRest, *, reduceIte]; walk_at "dt"; done)
  refine kdg_get2 (by assumption) (by k_mem) (by assumption) (by assumption) (strKind_is _ _ _ _) _ rfl ?_
  refine hret _ _ _ (Fr.keep (by assumption)) ⟨_, fresh_of (by assumption), ?_⟩
  have kne : (kind == Str.ofString "trireg") = false := by assumption
  simp only [lawRest, kne, Bool.false_eq_true, reduceIte]
  refine rest_val ?_ ?_ ?_ ?_ ?_
  all_goals walk_at "dt"
theorem sub_names {w : World} {A : Around} {s : Shared} {E : Value → Shared → Prop} {value slice : Expr} {h₀ : Heap} {L : Addr} {news : List (Addr × Obj)} {l : Addr} {vs : List Value} {n : Nat} {k : Int} {u : Tok} {Q : Value → Shared → Prop}
    (N : News h₀ L s.heap news) (hm : (l, listOf vs.toArray n) ∈ news) (hi : InA news vs [.str (Str.ofString "Hi"), .str (Str.ofString "Sm"), .str (Str.ofString "Me"), .str (Str.ofString "We"), .str (Str.ofString "La"), .str (Str.ofString "Pu"), .str (Str.ofString "St"), .str (Str.ofString "Su")])
    (h0 : 0 ≤ k ∧ k < 8) (h : ∀ t, Q (.str (nameF k) t) s)
    (hs : subscripted slice false (.ref l) (.int k u) = operate [.ref l, .int k u] (getItem (.ref l) (.int k u)) := by with_unfolding_all rfl) :
    wpAny (model PR w) A (subscriptTail value slice (.ref l) (.int k u)) Q E s := by
  refine sub_listH (d := .str (nameF k)) (N _ hm).1 (hi.rd N) h0.1 (by omega) ?_ (fun v hv => ?_) hs
  · rcases eight h0 with rfl | rfl | rfl | rfl | rfl | rfl | rfl | rfl <;> rfl
  · cases hv
    exact h _
theorem eq_rd {w : World} {A : Around} {s : Shared} {E : Value → Shared → Prop} {v1 v2 : Value} {d1 d2 : PyData} {b : Bool} {Q : Value → Shared → Prop} (r1 : Rd s.heap v1 d1) (r2 : Rd s.heap v2 d2) (h1 : PySem.SeqAt.shaped d1 = true) (h2 : PySem.SeqAt.shaped d2 = true) (hu : A.units + 64 < cLine)
    (e : PyData.eqv d1 d2 = b) (h : Q (.bool b) s) : wpAny (model PR w) A (compareOp .Eq v1 v2) Q E s := by
  obtain ⟨_, q1⟩ := r1.reads
  obtain ⟨_, q2⟩ := r2.reads
  exact eq_dataH q1 q2 h1 h2 hu (e ▸ h)
theorem ne_rd {w : World} {A : Around} {s : Shared} {E : Value → Shared → Prop} {v1 v2 : Value} {d1 d2 : PyData} {b : Bool} {Q : Value → Shared → Prop} (r1 : Rd s.heap v1 d1) (r2 : Rd s.heap v2 d2) (h1 : PySem.SeqAt.shaped d1 = true) (h2 : PySem.SeqAt.shaped d2 = true) (hu : A.units + 64 < cLine)
    (e : PyData.eqv d1 d2 = b) (h : Q (.bool (!b)) s) : wpAny (model PR w) A (compareOp .NotEq v1 v2) Q E s := by
  obtain ⟨_, q1⟩ := r1.reads
  obtain ⟨_, q2⟩ := r2.reads
  exact ne_dataH q1 q2 h1 h2 hu (e ▸ h)
theorem eqv_pr (a b c d : Int) : PyData.eqv (prD a b) (prD c d) = decide (a = c ∧ b = d) := by
  simp only [PyData.eqv, PyData.eqvAll, Bool.and_true]
  by_cases h1 : a = c <;> by_cases h2 : b = d <;> simp [h1, h2]
theorem shaped_pr (a b : Int) : PySem.SeqAt.shaped (prD a b) = true := by
  simp [SeqAt.shaped, PyData.canLay0, PyData.canLayAll0, PyData.depth, PyData.depthAll]
local macro_rules | `(tactic| walk_at "rdx") => `(tactic| first | exact Rd.keeps (Fr.keep (by assumption)) (Rdk.out (by assumption)) | exact In.rd (by assumption) (by walk_at "dt") | exact Rd.keeps (Fr.keep (by assumption)) (by assumption))
local macro_rules | `(tactic| walk_at "compareOp Eq ref ref") => `(tactic| (k_dflt ((refine' eq_rd (d1 := prD _ _) (d2 := prD _ _) ?r1 ?r2 (shaped_pr _ _) (shaped_pr _ _) ?u (eqv_pr _ _ _ _) ?_); (case r1 => walk_at "rdx"); (case r2 => walk_at "rdx"); (case u => (dsimp only; omega)))))
def lawLetters (l h : Int) : Str :=
  if (l = 0 ∧ h = 0) then Str.ofString "HiZ"
  else if l = h then nameF (absF l) ++ (if l > 0 then Str.ofString "1" else Str.ofString "0")
  else if l = 0 then nameF h ++ Str.ofString "H"
  else if h = 0 then nameF (-l) ++ Str.ofString "L"
  else if l = -h then nameF h ++ Str.ofString "X"
  else if l > 0 then Str.ofString (toString h) ++ Str.ofString (toString l) ++ Str.ofString "1"
  else if h < 0 then Str.ofString (toString (-l)) ++ Str.ofString (toString (-h)) ++ Str.ofString "0"
  else Str.ofString (toString (-l)) ++ Str.ofString (toString h) ++ Str.ofString "X"
set_option maxHeartbeats 4000000 in
theorem law_letters_ct (w : World) (l h : Int) (hl : -8 < l ∧ l < 8) (hh : -8 < h ∧ h < 8) (hlh : l ≤ h) : Pu w 167 1 [prD l h] (.str (lawLetters l h)) := by
  intro dp un gd fr s vs Q E G hpre hd hu hret
  obtain ⟨l0, l1⟩ := hl
  obtain ⟨h0, h1⟩ := hh
  have l2 : -8 < -l := by omega
  have l3 : -l < 8 := by omega
  have h2 : -8 < -h := by omega
  have h3 : -h < 8 := by omega
  walk_at "ct_open"
  ( (have X9 := Gd.k (by assumption)); (obtain ⟨_, _, _, _, _, T9⟩ := Gd.t (by assumption)); (refine wpAny_call ?_); (refine' enter (by assumption) X9 ?k6 ?k7 ?k8 ?k9 ?kB ?_ ?c2 ?c3 ?c4 ?c5); (case k6 => k_is); (case k7 => k_is); (case k8 => omega); (case k9 => rfl); (case kB => exact locs rfl); (case c2 => exact rfl); (case c3 => exact rfl); (case c4 => exact rfl); (case c5 => decide); intro L9 h9 tk9 fr9 F9 N9; (dsimp only [List.map, List.zip, List.zipWith, List.reverse, List.reverseAux] at F9 ⊢); (try k_fold))
  k_steps
  all_goals (refine hret _ _ _ (Fr.keep (by assumption)) ⟨_, fresh_of (by assumption), dt_str ?_⟩)
  all_goals (clear hret; (try simp only [decide_eq_true_eq, decide_eq_false_iff_not] at *); unfold lawLetters absF; (repeat' split) <;> first | rfl | (exfalso; omega))
/- NP1 -/
def loF (ns : List Int) : Nat → Int
  | 0 => 0
  | i + 1 => loF ns i + (ns.getD i 0 % 2) * 2 ^ i
def hiF (ns : List Int) : Nat → Int
  | 0 => 0
  | i + 1 => hiF ns i + (ns.getD i 0 / 2) * 2 ^ i
abbrev vecD (ns : List Int) : PyData := .tuple [.int ns.length, .int (loF ns ns.length), .int (hiF ns ns.length)]
theorem bitAnd_pow {x : Int} {i : Nat} {b : Int} (h0 : 0 ≤ x) (hx : x < 2 ^ i) (hb : b = 0 ∨ b = 1) : Builtin.bitAnd x (b * 2 ^ i) = 0 := by
  obtain ⟨n, rfl⟩ := Int.eq_ofNat_of_zero_le h0
  rcases hb with rfl | rfl
  · rw [Int.zero_mul]
    unfold Builtin.bitAnd
    simp
  · rw [Int.one_mul]
    have e : (2 ^ i : Int) = ((2 ^ i : Nat) : Int) := by push_cast; rfl
    rw [e] at hx ⊢
    have hx' : n < 2 ^ i := by exact_mod_cast hx
    unfold Builtin.bitAnd
    simp only [Int.natCast_nonneg, decide_true, Int.toNat_natCast]
    have e3 : n &&& 2 ^ i = 0 := by
      apply Nat.eq_of_testBit_eq
      intro j
      rw [Nat.testBit_and, Nat.testBit_two_pow, Nat.zero_testBit]
      by_cases e : i = j
      · subst e; simp [Nat.testBit_lt_two_pow hx']
      · simp [e]
    rw [e3]
    rfl
theorem bitOr_pow {x : Int} {i : Nat} {b : Int} (h0 : 0 ≤ x) (hx : x < 2 ^ i) (hb : b = 0 ∨ b = 1) : Builtin.bitOr x (b * 2 ^ i) = x + b * 2 ^ i := by
  rw [bitOr_and, bitAnd_pow h0 hx hb]; omega
theorem loF_range {ns : List Int} (hn : ∀ x ∈ ns, 0 ≤ x ∧ x < 4) : ∀ i, 0 ≤ loF ns i ∧ loF ns i < 2 ^ i
  | 0 => by simp [loF]
  | i + 1 => by
    have ih := loF_range hn i
    have hb : ns.getD i 0 % 2 = 0 ∨ ns.getD i 0 % 2 = 1 := by omega
    have e : (2 : Int) ^ (i + 1) = 2 ^ i * 2 := Int.pow_succ ..
    rw [loF, e]
    generalize (2 : Int) ^ i = p at *
    rcases hb with h | h <;> rw [h] <;> omega
theorem getD_range {ns : List Int} (hn : ∀ x ∈ ns, 0 ≤ x ∧ x < 4) (i : Nat) : 0 ≤ ns.getD i 0 ∧ ns.getD i 0 < 4 := by
  rw [List.getD_eq_getElem?_getD]
  cases h : ns[i]? with
  | none => simp
  | some v => exact hn v (List.mem_of_getElem? h)
theorem hiF_range {ns : List Int} (hn : ∀ x ∈ ns, 0 ≤ x ∧ x < 4) : ∀ i, 0 ≤ hiF ns i ∧ hiF ns i < 2 ^ i
  | 0 => by simp [hiF]
  | i + 1 => by
    have ih := hiF_range hn i
    have hr := getD_range hn i
    have hb : ns.getD i 0 / 2 = 0 ∨ ns.getD i 0 / 2 = 1 := by omega
    have e : (2 : Int) ^ (i + 1) = 2 ^ i * 2 := Int.pow_succ ..
    rw [hiF, e]
    generalize (2 : Int) ^ i = p at *
    rcases hb with h | h <;> rw [h] <;> omega
theorem lo_step {ns : List Int} (hn : ∀ x ∈ ns, 0 ≤ x ∧ x < 4) {i : Nat} (hi : i < ns.length) : Builtin.bitOr (loF ns i) (Builtin.bitAnd ns[i] 1 * 2 ^ ((i : Int)).toNat) = loF ns (i + 1) := by
  have e : ns.getD i 0 = ns[i] := by simp [List.getD_eq_getElem?_getD, hi]
  rw [bitAnd_m1, Int.toNat_natCast, loF, e]
  exact bitOr_pow (loF_range hn i).1 (loF_range hn i).2 (by omega)
theorem hi_step {ns : List Int} (hn : ∀ x ∈ ns, 0 ≤ x ∧ x < 4) {i : Nat} (hi : i < ns.length) : Builtin.bitOr (hiF ns i) (ns[i].fdiv (2 ^ (1 : Int).toNat) * 2 ^ ((i : Int)).toNat) = hiF ns (i + 1) := by
  have e : ns.getD i 0 = ns[i] := by simp [List.getD_eq_getElem?_getD, hi]
  have hr := hn _ (List.getElem_mem hi)
  have e2 : ns[i].fdiv (2 ^ (1 : Int).toNat) = ns[i] / 2 := by
    show ns[i].fdiv 2 = ns[i] / 2
    exact Int.fdiv_eq_ediv_of_nonneg _ (by omega)
  rw [e2, Int.toNat_natCast, hiF, e]
  exact bitOr_pow (hiF_range hn i).1 (hiF_range hn i).2 (by omega)
/- NF1 -/
theorem len_rd {w : World} {A : Around} {s : Shared} {E : Value → Shared → Prop} {l : Addr} {vs : List Value} {n k : Nat} {Q : Value → Shared → Prop} (hl : s.heap.get? l = some (listOf vs.toArray n)) (hk : vs.length = k) (hb : k < 2 ^ 62)
    (h : ∀ t tk, Q (.int (k : Int) t) { s with toks := tk }) : wpAny (model PR w) A (call (.builtin "len") [.ref l]) Q E s := by
  have e : vs.toArray.size = k := by simp [hk]
  exact call_len_list (isList_of hl) (by rw [e]; omega) (by rw [e]; exact h _ _)
local macro_rules | `(tactic| walk_at "call builtin:len") => `(tactic| (k_dflt ((with_reducible show wpAny _ _ (call (Value.builtin "len") [Value.ref _]) _ _ _); (refine' len_rd (Fr.keep (by assumption) _ _ (by assumption)) ?hk ?hb ?_); (case hk => assumption); (case hb => omega); intro _ _)))
theorem sub_listN {w : World} {A : Around} {s : Shared} {E : Value → Shared → Prop} {value slice : Expr} {l : Addr} {vs : List Value} {n i : Nat} {u : Tok} {ds : List PyData} {d : PyData} {Q : Value → Shared → Prop}
    (hl : s.heap.get? l = some (listOf vs.toArray n)) (hr : RdA s.heap vs ds) (hhi : i < 2 ^ 62) (hx : ds[i]? = some d) (h : ∀ v, Rd s.heap v d → Q v s)
    (hs : subscripted slice false (.ref l) (.int (i : Int) u) = operate [.ref l, .int (i : Int) u] (getItem (.ref l) (.int (i : Int) u)) := by with_unfolding_all rfl) :
    wpAny (model PR w) A (subscriptTail value slice (.ref l) (.int (i : Int) u)) Q E s :=
  sub_listH hl hr (by omega) (by omega) (by simpa using hx) h hs
local macro_rules | `(tactic| walk_at "binaryOp LShift int int") => `(tactic| (k_dflt ((refine' lshift_int_small ?n0 ?n1 ?ha ?_); (case n0 => omega); (case n1 => omega); (case ha => assumption))))
set_option maxHeartbeats 4000000 in
theorem from_codes_ct (w : World) (ns : List Int) (hlen : ns.length ≤ 64) (hn : ∀ x ∈ ns, 0 ≤ x ∧ x < 4) : Pu w 28 1 [.list (ns.map .int)] (vecD ns) := by
  intro dp un gd fr s vs Q E G hpre hd hu hret
  walk_at "ct_open"
  rename DtA _ _ _ => hA
  rename _ = some (listOf _ _) => hobj
  have hvl := hA.len
  rw [List.length_map] at hvl
  ( (have X9 := Gd.k (by assumption)); (obtain ⟨_, _, _, _, _, T9⟩ := Gd.t (by assumption)); (refine wpAny_call ?_); (refine' enter (by assumption) X9 ?k6 ?k7 ?k8 ?k9 ?kB ?_ ?c2 ?c3 ?c4 ?c5); (case k6 => k_is); (case k7 => k_is); (case k8 => omega); (case k9 => rfl); (case kB => exact locs rfl); (case c2 => exact rfl); (case c3 => exact rfl); (case c4 => exact rfl); (case c5 => decide); intro L9 h9 tk9 fr9 F9 N9; (dsimp only [List.map, List.zip, List.zipWith, List.reverse, List.reverseAux] at F9 ⊢); (try k_fold))
  k_steps
  refine for_range0 (by assumption) (by assumption) (by assumption) (by omega) (fun i m nx => nx = [] ∧ HasI m "a" (loF ns i) ∧ HasI m "b" (hiF ns i) ∧ Has m "row" (.ref _)) ⟨rfl, HasI.of rfl rfl, HasI.of rfl rfl, rfl⟩ ?turn ?done
  case turn =>
    rintro i t m nx I oI h tk hi ⟨rfl, ⟨_, ha⟩, ⟨_, hb⟩, hr⟩ off F N
    replace F := canon_fr _ F (psC ha (psC hb (psC hr psN)))
    have hx : (ns.map PyData.int)[i]? = some (.int ns[i]) := by simp [hi]
    have hx4 := hn _ (List.getElem_mem hi)
    have b1 : (Builtin.bitAnd ns[i] 1).natAbs < 2 ^ 64 := by rw [bitAnd_m1]; omega
    have b2 : (ns[i].fdiv (2 ^ (1 : Int).toNat)).natAbs < 2 ^ 64 := Nat.lt_of_le_of_lt (natAbs_fdiv_le _ _) (by omega)
    k_steps
    exact ⟨_, _, _, [], rfl, by assumption, by assumption, off, (fun _ h => nomatch h), rfl, HasI.of (by rfl) (lo_step hn hi), HasI.of (by rfl) (hi_step hn hi), by rfl⟩
  case done =>
    rintro m nx h tk ⟨rfl, ⟨_, ha⟩, ⟨_, hb⟩, hr⟩ F N
    replace F := canon_fr _ F (psC ha (psC hb (psC hr psN)))
    k_steps
    all_goals (refine hret _ _ _ (Fr.keep (by assumption)) ⟨_, fresh_of (by assumption), ?_⟩; walk_at "dt")
/- NF2 -/
abbrev pairsD (ps : List (Int × Int)) : PyData := .list (ps.map fun p => prD p.1 p.2)
abbrev codesOf (ps : List (Int × Int)) : List Int := ps.map fun p => pairCode p.1 p.2
theorem DtA.snoc {P : Addr → Obj → Prop} : ∀ {vs : List Value} {ds : List PyData} {v : Value} {d : PyData}, DtA P vs ds → Dt P v d → DtA P (vs ++ [v]) (ds ++ [d])
  | _, _, _, _, .nil, h => .cons h .nil
  | _, _, _, _, .cons a r, h => .cons a (DtA.snoc r h)
theorem take_snoc {α β : Type} (f : α → β) {l : List α} {i : Nat} (hi : i < l.length) : (l.take (i + 1)).map f = (l.take i).map f ++ [f l[i]] := by
  rw [List.take_add_one, List.map_append]; simp [hi]
theorem DtA.at {P : Addr → Obj → Prop} {vs : List Value} {ds : List PyData} {i : Nat} {v : Value} {d : PyData} (h : DtA P vs ds) (e : vs[i]? = some v) (e' : ds[i]? = some d) : Dt P v d := by
  obtain ⟨v', h1, h2⟩ := h.get e'
  rw [e] at h1; cases h1; exact h2
theorem pairCode_range (l h : Int) : 0 ≤ pairCode l h ∧ pairCode l h < 4 := by unfold pairCode; (repeat' split) <;> omega
theorem codesOf_range (ps : List (Int × Int)) : ∀ x ∈ codesOf ps, 0 ≤ x ∧ x < 4 := by
  intro x hx
  obtain ⟨p, _, rfl⟩ := List.mem_map.mp hx
  exact pairCode_range _ _
theorem i64 {n : Nat} (h : n ≤ 64) : n ≤ sizeLine := by rw [sizeLine_eq]; omega
set_option maxHeartbeats 4000000 in
theorem pairs_vec_ct (w : World) (ps : List (Int × Int)) (hlen : ps.length ≤ 64) : Pu w 87 3 [pairsD ps] (vecD (codesOf ps)) := by
  intro dp un gd fr s vs Q E G hpre hd hu hret
  walk_at "ct_open"
  rename DtA _ _ _ => hA
  rename _ = some (listOf _ _) => hobj
  have hvl := hA.len
  rw [List.length_map] at hvl
  rename List Value => vs
  ( (have X9 := Gd.k (by assumption)); (obtain ⟨_, _, _, _, _, T9⟩ := Gd.t (by assumption)); (refine wpAny_call ?_); (refine' enter (by assumption) X9 ?k6 ?k7 ?k8 ?k9 ?kB ?_ ?c2 ?c3 ?c4 ?c5); (case k6 => k_is); (case k7 => k_is); (case k8 => omega); (case k9 => rfl); (case kB => exact locs rfl); (case c2 => exact rfl); (case c3 => exact rfl); (case c4 => exact rfl); (case c5 => decide); intro L9 h9 tk9 fr9 F9 N9; (dsimp only [List.map, List.zip, List.zipWith, List.reverse, List.reverseAux] at F9 ⊢); (try k_fold))
  k_steps
  refine comp_list (by assumption) (by assumption) (Fr.keep (by assumption) _ _ hobj) (i64 (by omega)) [] (.inl ⟨_, hobj⟩) (fun _ h => (nomatch h)) (fun i ys nx => nx = [] ∧ InA [] ys ((codesOf (ps.take i)).map .int)) ⟨rfl, .nil⟩ ?turn ?done
  case turn =>
    rintro i v ys nx C mc oL D nD I oI h tk hi hv ⟨rfl, hI⟩ hlen' hk F hm N off
    have hi' : i < ps.length := by omega
    have hx : (ps.map fun p => prD p.1 p.2)[i]? = some (prD ps[i].1 ps[i].2) := by simp [hi']
    have hd9 := hA.at hv hx
    walk_at "ct_open"
    replace F := canon_fr _ F (psC hm psN)
    k_steps
    (all_goals first | (show Addr; exact (0 : Nat)) | (show Str; exact Str.ofString "") | (show Value; exact Value.none) | (show List (Str × Addr); exact []) | skip)
    exact ⟨_, _, _, [], rfl, by assumption, by assumption, (fun _ h => (nomatch h)), (fun _ h => (nomatch h)), rfl, by rw [codesOf, List.map_map, take_snoc _ hi', ← List.map_map]; exact hI.snoc (.int _ _)⟩
  case done =>
    rintro ys nx D nD h tk ⟨rfl, hI⟩ hlen' F N off
    have hI' : In [(D, listOf ys.toArray nD)] (.ref D) (.list ((codesOf ps).map .int)) := .list (by k_mem) (by
      have e : ps.take vs.length = ps := by rw [hvl]; exact List.take_length
      rw [e] at hI
      exact InA.sub (l := []) (fun _ h => (nomatch h)) hI)
    k_steps
    refine Pu.use (from_codes_ct w (codesOf ps) (by rw [List.length_map]; omega) (codesOf_range ps)) (by assumption) (by assumption) (by assumption) (.cons (hI'.rd (by assumption)) .nil) (by omega) (by omega) ?_
    intro v9 h9 tk9 tl9 F9 N9 O9 I9
    k_steps
    exact hret _ _ _ (Fr.keep (by assumption)) ⟨_, fresh_of N9, In.sub (fun _ h => List.mem_append.mpr (.inr h)) I9⟩
/- NF3 -/
theorem elt_end {h₀ h' : Heap} {C : Addr} {w3 keep nx tl : List (Addr × Obj)} {J : List Value → List (Addr × Obj) → Prop} {s₁ : Shared} {ys : List Value} {y : Value} {mc : Str → Option Value} {tk : Nat}
    (F : Fr h₀ C h' mc) (N : News h₀ C h' ((w3 ++ nx) ++ tl)) (O : ∀ q ∈ w3 ++ nx, ∀ p ∈ tl, p.1 ≠ q.1) (off : ∀ p ∈ nx, ∀ q ∈ w3, p.1 ≠ q.1) (hk : ∀ p ∈ keep, p ∈ nx) (hJ : J (ys ++ [y]) (nx ++ tl)) :
    EltEnd h₀ C w3 keep J s₁ ys y { s₁ with heap := h', toks := tk } := by
  refine ⟨h', tk, mc, nx ++ tl, rfl, F, fun p hp => N p (by rw [List.append_assoc]; exact hp), fun p hp q hq => ?_, fun p hp => List.mem_append.mpr (.inl (hk p hp)), hJ⟩
  rcases List.mem_append.mp hp with h | h
  · exact off p h q hq
  · exact O q (List.mem_append.mpr (.inl hq)) p h
theorem lo_bit {ns : List Int} (hn : ∀ x ∈ ns, 0 ≤ x ∧ x < 4) {i : Nat} : ∀ n, i < n → (loF ns n / 2 ^ i) % 2 = ns.getD i 0 % 2 := by
  intro n
  induction n with
  | zero => intro h; omega
  | succ n ih =>
    intro h
    rw [loF]
    by_cases e : i = n
    · subst e
      have hr := loF_range hn i
      rw [Int.add_mul_ediv_right _ _ (by have : (0 : Int) < 2 ^ i := Int.pow_pos (by omega); omega), Int.ediv_eq_zero_of_lt hr.1 hr.2]
      omega
    · have hi : i < n := by omega
      have e2 : (2 : Int) ^ n = 2 ^ (n - i - 1) * 2 * 2 ^ i := by
        rw [show n = (n - i - 1) + 1 + i by omega, Int.pow_add, Int.pow_add, show n - i - 1 + 1 + i - i - 1 = n - i - 1 by omega]; simp
      rw [e2, ← Int.mul_assoc, ← Int.mul_assoc, Int.add_mul_ediv_right _ _ (by have : (0 : Int) < 2 ^ i := Int.pow_pos (by omega); omega), Int.add_mul_emod_self_right]
      exact ih hi
theorem hi_bit {ns : List Int} (hn : ∀ x ∈ ns, 0 ≤ x ∧ x < 4) {i : Nat} : ∀ n, i < n → (hiF ns n / 2 ^ i) % 2 = ns.getD i 0 / 2 := by
  intro n
  induction n with
  | zero => intro h; omega
  | succ n ih =>
    intro h
    rw [hiF]
    by_cases e : i = n
    · subst e
      have hr := hiF_range hn i
      have hg := getD_range hn i
      rw [Int.add_mul_ediv_right _ _ (by have : (0 : Int) < 2 ^ i := Int.pow_pos (by omega); omega), Int.ediv_eq_zero_of_lt hr.1 hr.2]
      omega
    · have hi : i < n := by omega
      have e2 : (2 : Int) ^ n = 2 ^ (n - i - 1) * 2 * 2 ^ i := by
        rw [show n = (n - i - 1) + 1 + i by omega, Int.pow_add, Int.pow_add, show n - i - 1 + 1 + i - i - 1 = n - i - 1 by omega]; simp
      rw [e2, ← Int.mul_assoc, ← Int.mul_assoc, Int.add_mul_ediv_right _ _ (by have : (0 : Int) < 2 ^ i := Int.pow_pos (by omega); omega), Int.add_mul_emod_self_right]
      exact ih hi
theorem code_at {ns : List Int} (hn : ∀ x ∈ ns, 0 ≤ x ∧ x < 4) {i : Nat} (hi : i < ns.length) : codeF (loF ns ns.length) (hiF ns ns.length) i = ns[i] := by
  have e : ns.getD i 0 = ns[i] := by simp [List.getD_eq_getElem?_getD, hi]
  have p : (0 : Int) ≤ 2 ^ i := Int.le_of_lt (Int.pow_pos (by omega))
  unfold codeF
  rw [bitAnd_m1, bitAnd_m1, Int.toNat_natCast, Int.fdiv_eq_ediv_of_nonneg _ p, Int.fdiv_eq_ediv_of_nonneg _ p, lo_bit hn _ hi, hi_bit hn _ hi, e]
  omega
theorem inA_snoc {tl tl' : List (Addr × Obj)} {vs : List Value} {ds : List PyData} {v : Value} {d : PyData} (h : InA tl vs ds) (h' : In tl' v d) : InA (tl ++ tl') (vs ++ [v]) (ds ++ [d]) :=
  DtA.snoc (InA.sub (fun _ q => List.mem_append.mpr (.inl q)) h) (In.sub (fun _ q => List.mem_append.mpr (.inr q)) h')
abbrev driveD (ns : List Int) (s0 s1 : Int) : PyData := .list (ns.map fun c => driveBit c s0 s1)
set_option maxHeartbeats 4000000 in
theorem drive_ct (w : World) (ns : List Int) (s0 s1 : Int) (hlen : ns.length ≤ 64) (hn : ∀ x ∈ ns, 0 ≤ x ∧ x < 4) : Pu w 40 2 [vecD ns, .int s0, .int s1] (driveD ns s0 s1) := by
  intro dp un gd fr s vs Q E G hpre hd hu hret
  walk_at "ct_open"
  ( (have X9 := Gd.k (by assumption)); (obtain ⟨_, _, _, _, _, T9⟩ := Gd.t (by assumption)); (refine wpAny_call ?_); (refine' enterC (by assumption) X9 ?k6 ?k7 ?k8 ?k9 ?kB ?kD ?_ ?c2 ?c3 ?c4); (case k6 => k_is); (case k7 => k_is); (case k8 => omega); (case k9 => rfl); (case kB => exact rfl); (case kD => decide +kernel); (case c2 => exact rfl); (case c3 => exact rfl); (case c4 => exact rfl); intro L9 h9 tk9 fr9 cells9 F9 N9 Y9; (dsimp only [List.map, List.zip, List.zipWith, List.reverse, List.reverseAux] at F9 ⊢); (try k_fold))
  rename CellsAre _ _ _ => Y
  obtain ⟨o1, o2, o3, rfl, d1, d2, d3⟩ := CellsAre.three Y
  clear Y
  replace d3 : _ = Data.cell (some (.ref _)) := d3
  replace d2 : _ = Data.cell (some (.int s0 _)) := d2
  replace d1 : _ = Data.cell (some (.int s1 _)) := d1
  rename Fr _ _ _ _ => F0
  replace F0 : Fr _ _ _ (fun _ => none) := F0
  k_steps
  refine comp_range0 (by assumption) (by assumption) (by assumption) (i64 (by omega)) (fun i ys nx => ∃ tl, nx = [(_, o1), (_, o2), (_, o3)] ++ tl ∧ InA tl ys ((ns.take i).map fun c => driveBit c s0 s1)) ⟨[], rfl, .nil⟩ ?turn ?done
  case turn =>
    rintro i v ys nx C mc oL D nD I oI h tk hi ⟨_, rfl⟩ ⟨tl, rfl, hI⟩ hlen' hk F hm N off
    replace F := canon_fr _ F (psC hm psN)
    simp only [List.cons_append, List.nil_append] at N
    k_steps
    (all_goals first | (show Addr; exact (0 : Nat)) | (show Str; exact Str.ofString "") | (show Value; exact Value.none) | (show List (Str × Addr); exact []) | skip)
    refine elt_end (by assumption) (by assumption) (by assumption) off (fun _ h => (nomatch h)) ⟨tl ++ _, rfl, ?_⟩
    rw [take_snoc _ hi]
    rw [code_at hn hi] at *
    exact inA_snoc hI (by assumption)
  case done =>
    rintro ys nx D nD h tk ⟨tl, rfl, hI⟩ hlen' F N off
    k_steps
    refine hret _ _ _ (Fr.keep (by assumption)) ⟨_, fresh_of N, .list (.head _) ?_⟩
    rw [List.take_length] at hI
    exact hI.sub fun p hp => by simp [hp]
/- NF4 -/
def driveBitP (v s0 s1 : Int) : Int × Int := if v = 0 then (-s0, -s0) else if v = 1 then (s1, s1) else if v = 2 then (0, 0) else (-s0, s1)
abbrev prP (p : Int × Int) : PyData := prD p.1 p.2
theorem driveBit_eq (v s0 s1 : Int) : driveBit v s0 s1 = prP (driveBitP v s0 s1) := by
  unfold driveBit driveBitP; (repeat' split) <;> rfl
def restP (kind : Str) (held : Int) : Int × Int :=
  if kind == Str.ofString "tri0" then (-5, -5) else if kind == Str.ofString "tri1" then (5, 5) else if kind == Str.ofString "supply0" then (-7, -7) else
  if kind == Str.ofString "supply1" then (7, 7) else if kind == Str.ofString "trireg" then driveBitP held 2 2 else (0, 0)
theorem restF_eq (kind : Str) (held : Int) : restF kind held = prP (restP kind held) := by
  unfold restF restP; (repeat' split) <;> first | rfl | exact driveBit_eq _ _ _
def joinP (kind : Str) (p q : Int × Int) : Int × Int := (strongerF p.1 q.1 (kind != Str.ofString "wor"), strongerF p.2 q.2 (kind == Str.ofString "wand"))
theorem rest_ctP (w : World) (kind : Str) (held : Int) : Pu w 61 2 [.str kind, .int held] (prP (restP kind held)) := restF_eq kind held ▸ rest_drive_ct w kind held
theorem join_ctP (w : World) (kind : Str) (p q : Int × Int) : Pu w 54 2 [.str kind, prP p, prP q] (prP (joinP kind p q)) := join_ct w kind p.1 p.2 q.1 q.2
abbrev feedsD (fs : List (List (Int × Int))) : PyData := .list (fs.map pairsD)
/-- the drives of one place -/
def atP (fs : List (List (Int × Int))) (i : Nat) : List (Int × Int) := fs.map fun f => f.getD i (0, 0)
def placeP (kind : Str) (fs : List (List (Int × Int))) (held : Int) (i : Nat) : Int × Int := (atP fs i).foldl (joinP kind) (restP kind held)
def resP (kind : Str) (fs : List (List (Int × Int))) (hv : Nat → Int) (n : Nat) : List (Int × Int) := (List.range n).map fun i => placeP kind fs (hv i) i
theorem atP_step (kind : Str) (fs : List (List (Int × Int))) (i j : Nat) (r : Int × Int) (hj : j < fs.length) (hi : i < fs[j].length) :
    ((atP fs i).take (j + 1)).foldl (joinP kind) r = joinP kind (((atP fs i).take j).foldl (joinP kind) r) fs[j][i] := by
  have e : (atP fs i)[j]? = some fs[j][i] := by simp [atP, hj, List.getD_eq_getElem?_getD, hi]
  rw [List.take_add_one, e, List.foldl_append]
  rfl
theorem resP_step (kind : Str) (fs : List (List (Int × Int))) (hv : Nat → Int) (i : Nat) : resP kind fs hv (i + 1) = resP kind fs hv i ++ [placeP kind fs (hv i) i] := by
  simp [resP, List.range_succ]
theorem off_of {news tl : List (Addr × Obj)} {d : Addr} (O : ∀ q ∈ news, ∀ p ∈ tl, p.1 ≠ q.1) (hm : ∃ o, (d, o) ∈ news) : ∀ p ∈ tl, p.1 ≠ d := let ⟨_, h⟩ := hm; O _ h
theorem off_swap {news tl : List (Addr × Obj)} {d : Addr} (h : ∀ p ∈ tl, p.1 ≠ d) : ∀ p ∈ tl, d ≠ p.1 := fun p hp => (h p hp).symm
local macro_rules | `(tactic| k_all) => `(tactic| (repeat' (first | assumption | exact List.forall_mem_nil _ | exact off_of (by assumption) ⟨_, by k_mem⟩ | (refine List.forall_mem_append.mpr ⟨?_, ?_⟩) | (refine List.forall_mem_cons.mpr ⟨?_, ?_⟩) | k_ne)))
theorem sub_listB {w : World} {A : Around} {s : Shared} {E : Value → Shared → Prop} {value slice : Expr} {h₀ : Heap} {L : Addr} {m : Str → Option Value} {l : Addr} {vs : List Value} {n i : Nat} {u : Tok} {ds : List PyData} {d : PyData} {Q : Value → Shared → Prop}
    (F : Fr h₀ L s.heap m) (hl : h₀.get? l = some (listOf vs.toArray n)) (hr : RdA h₀ vs ds) (hhi : i < 2 ^ 62) (hx : ds[i]? = some d) (h : ∀ v, Rd h₀ v d → Q v s)
    (hs : subscripted slice false (.ref l) (.int (i : Int) u) = operate [.ref l, .int (i : Int) u] (getItem (.ref l) (.int (i : Int) u)) := by with_unfolding_all rfl) :
    wpAny (model PR w) A (subscriptTail value slice (.ref l) (.int (i : Int) u)) Q E s := by
  obtain ⟨v, h1, h2⟩ := hr.get hx
  have hL := isList_of (F.keep _ _ hl)
  exact tail_any hL.typeIs slot_list_getitem.lookup (wpAny_getItem_list hL (by omega) (by omega) (by simpa using h1) (h v h2)) hs
set_option maxHeartbeats 4000000 in
theorem resolve_ct (w : World) (kind : Str) (n : Nat) (fs : List (List (Int × Int))) (hD : PyData) (hv : Nat → Int) (hn : n ≤ 64) (hfs : ∀ f ∈ fs, f.length = n) (hfl : fs.length ≤ 64)
    (hc : ∀ i < n, Pu w 68 1 [hD, .int (i : Nat)] (.int (hv i))) : Pu w 75 4 [.str kind, .int n, feedsD fs, hD] (pairsD (resP kind fs hv n)) := by
  intro dp un gd fr s vs Q E G hpre hd hu hret
  walk_at "ct_open"
  rename Dt _ _ hD => hH
  rename DtA _ _ _ => hA
  rename _ = some (listOf _ _) => hobj
  have hvl := hA.len
  rw [List.length_map] at hvl
  rename List Value => fv
  ( (have X9 := Gd.k (by assumption)); (obtain ⟨_, _, _, _, _, T9⟩ := Gd.t (by assumption)); (refine wpAny_call ?_); (refine' enter (by assumption) X9 ?k6 ?k7 ?k8 ?k9 ?kB ?_ ?c2 ?c3 ?c4 ?c5); (case k6 => k_is); (case k7 => k_is); (case k8 => omega); (case k9 => rfl); (case kB => exact locs rfl); (case c2 => exact rfl); (case c3 => exact rfl); (case c4 => exact rfl); (case c5 => decide); intro L9 h9 tk9 fr9 F9 N9; (dsimp only [List.map, List.zip, List.zipWith, List.reverse, List.reverseAux] at F9 ⊢); (try k_fold))
  k_steps
  refine for_range0 (by assumption) (by assumption) (by assumption) (by omega) (fun i m nx => ∃ Rr ys nR tl, nx = (Rr, listOf (List.toArray ys) nR) :: tl ∧ (∀ p ∈ tl, p.1 ≠ Rr) ∧ InA tl ys ((resP kind fs hv i).map prP) ∧ ys.length = i ∧ HasS m "kind" kind ∧ Has m "drivers" (.ref _) ∧ Has m "held" _ ∧ Has m "result" (.ref Rr)) ⟨_, [], _, [], rfl, (fun _ h => (nomatch h)), .nil, rfl, HasS.of rfl rfl, rfl, rfl, rfl⟩ ?turn ?done
  case turn =>
    rintro i t m nx I oI h tk hi ⟨Rr, ys, nR, tl, rfl, hapart, hI, hlen', ⟨_, hk⟩, hdr, hhe, hre⟩ off F N
    replace F := canon_fr _ F (psC hk (psC hdr (psC hhe (psC hre psN))))
    k_steps
    refine Pu.useI (hc i hi) (by assumption) (by assumption) (by assumption) (.cons (Rd.keeps (Fr.keep (by assumption)) hH) (.cons (.int _ _) .nil)) (by omega) (by omega) ?_
    intro t9 h9 tk9 F9 N9
    dsimp only
    k_steps
    have hIR := off _ (.head _)
    refine for_list (by assumption) (by assumption) (Fr.keep (by assumption) _ _ hobj) [] (.inl ⟨_, hobj⟩) (fun _ h => (nomatch h)) (fun j m nx => ∃ tl' v, nx = (I, oI) :: (Rr, listOf (List.toArray ys) nR) :: (tl ++ tl') ∧ (∀ p ∈ tl', p.1 ≠ Rr) ∧ (∀ p ∈ tl', p.1 ≠ I) ∧ In tl' v (prP (((atP fs i).take j).foldl (joinP kind) (restP kind (hv i)))) ∧ Has m "pair" v ∧ HasI m "place" i ∧ HasS m "kind" kind ∧ Has m "drivers" (.ref _) ∧ Has m "held" _ ∧ Has m "result" (.ref Rr)) ⟨_, _, rfl, by k_all, by k_all, by assumption, rfl, HasI.of rfl rfl, HasS.of rfl rfl, rfl, rfl, rfl⟩ ?turn2 ?done2
    case turn2 =>
      rintro j v m nx I2 oI2 h tk hj ⟨tl', vp, rfl, ha1, ha2, hIp, hpr, ⟨_, hpl⟩, ⟨_, hk⟩, hdr, hhe, hre⟩ off2 hkp F N
      replace F := canon_fr _ F (psC hpr (psC hpl (psC hk (psC hdr (psC hhe (psC hre psN))))))
      have hjf : j < fs.length := by
        have := (List.getElem?_eq_some_iff.mp hj).1
        omega
      have hfj : (fs.map pairsD)[j]? = some (pairsD fs[j]) := by simp [hjf]
      have hrow := hA.at hj hfj
      walk_at "ct_open"
      have hlr := hfs _ (List.getElem_mem hjf)
      have hit : (fs[j].map prP)[i]? = some (prP fs[j][i]) := by simp [hlr, hi]
      k_steps
      refine Pu.use (join_ctP w kind _ fs[j][i]) (by assumption) (by assumption) (by assumption) (.cons (.str _ _) (.cons (In.rd (by assumption) (In.sub (fun _ h => by simp [h]) hIp)) (.cons (Rd.keeps (Fr.keep (by assumption)) (by assumption)) .nil))) (by omega) (by omega) ?_
      intro v9 h9 tk9 tl9 F9 N9 O9 I9
      dsimp only
      k_steps
      rw [← atP_step kind fs i j _ hjf (by rw [hlr]; exact hi)] at I9
      exact ⟨_, _, _, ((I, oI) :: (Rr, _) :: (tl ++ tl')) ++ tl9, rfl, by assumption, by assumption, List.forall_mem_append.mpr ⟨off2, off_of O9 ⟨_, .head _⟩⟩, (fun _ h => (nomatch h)), tl' ++ tl9, v9, by simp,
        List.forall_mem_append.mpr ⟨ha1, off_of O9 ⟨_, .tail _ (.tail _ (.head _))⟩⟩, List.forall_mem_append.mpr ⟨ha2, off_of O9 ⟨_, .tail _ (.head _)⟩⟩, In.sub (fun _ h => by simp [h]) I9, by rfl, HasI.of (by rfl) rfl, HasS.of (by rfl) rfl, by rfl, by rfl, by rfl⟩
    case done2 =>
      rintro m nx h tk ⟨tl', vp, rfl, ha1, ha2, hIp, hpr, ⟨_, hpl⟩, ⟨_, hk⟩, hdr, hhe, hre⟩ hkp F N
      replace F := canon_fr _ F (psC hpr (psC hpl (psC hk (psC hdr (psC hhe (psC hre psN))))))
      rw [List.take_of_length_le (by rw [atP, List.length_map]; omega)] at hIp
      k_steps
      have N9 := ‹News _ _ _ ((I, oI) :: (Rr, listOf (ys.toArray.push vp) (nR + 1)) :: (tl ++ tl'))›
      refine ⟨_, _, _, (Rr, listOf (List.toArray (ys ++ [vp])) (nR + 1)) :: (tl ++ tl'), rfl, by assumption, by simpa using N9, List.forall_mem_cons.mpr ⟨hIR, List.forall_mem_append.mpr ⟨fun p hp => off p (.tail _ hp), ha2⟩⟩, (fun _ h => (nomatch h)), Rr, ys ++ [vp], nR + 1, tl ++ tl', rfl,
        List.forall_mem_append.mpr ⟨hapart, ha1⟩, ?_, by simp [hlen'], HasS.of (by rfl) rfl, by rfl, by rfl, by rfl⟩
      rw [resP_step, List.map_append]
      exact inA_snoc hI hIp
  case done =>
    rintro m nx h tk ⟨Rr, ys, nR, tl, rfl, hapart, hI, hlen', ⟨_, hk⟩, hdr, hhe, hre⟩ F N
    replace F := canon_fr _ F (psC hre psN)
    k_steps
    refine hret _ _ _ (Fr.keep (by assumption)) ⟨_, fresh_of N, .list (.head _) ?_⟩
    exact hI.sub fun p hp => by simp [hp]
/- NF5 -/
theorem made_lo {ns : List Int} {i : Nat} (hi : i < ns.length) : loF ns i + Int.fmod ns[i] 2 * 2 ^ ((i : Int)).toNat = loF ns (i + 1) := by
  have e : ns.getD i 0 = ns[i] := by simp [List.getD_eq_getElem?_getD, hi]
  rw [loF, e, Int.toNat_natCast, Int.fmod_eq_emod_of_nonneg _ (by omega)]
theorem made_hi {ns : List Int} {i : Nat} (hi : i < ns.length) : hiF ns i + Int.fdiv ns[i] 2 * 2 ^ ((i : Int)).toNat = hiF ns (i + 1) := by
  have e : ns.getD i 0 = ns[i] := by simp [List.getD_eq_getElem?_getD, hi]
  rw [hiF, e, Int.toNat_natCast, Int.fdiv_eq_ediv_of_nonneg _ (by omega)]
set_option maxHeartbeats 4000000 in
theorem law_made_ct (w : World) (ns : List Int) (hlen : ns.length ≤ 60) (hn : ∀ x ∈ ns, 0 ≤ x ∧ x < 4) : Pu w 129 1 [.list (ns.map .int)] (vecD ns) := by
  intro dp un gd fr s vs Q E G hpre hd hu hret
  walk_at "ct_open"
  rename DtA _ _ _ => hA
  rename _ = some (listOf _ _) => hobj
  have hvl := hA.len
  rw [List.length_map] at hvl
  ( (have X9 := Gd.k (by assumption)); (obtain ⟨_, _, _, _, _, T9⟩ := Gd.t (by assumption)); (refine wpAny_call ?_); (refine' enter (by assumption) X9 ?k6 ?k7 ?k8 ?k9 ?kB ?_ ?c2 ?c3 ?c4 ?c5); (case k6 => k_is); (case k7 => k_is); (case k8 => omega); (case k9 => rfl); (case kB => exact locs rfl); (case c2 => exact rfl); (case c3 => exact rfl); (case c4 => exact rfl); (case c5 => decide); intro L9 h9 tk9 fr9 F9 N9; (dsimp only [List.map, List.zip, List.zipWith, List.reverse, List.reverseAux] at F9 ⊢); (try k_fold))
  k_steps
  refine for_range0 (by assumption) (by assumption) (by assumption) (by omega) (fun i m nx => nx = [] ∧ HasI m "low" (loF ns i) ∧ HasI m "high" (hiF ns i) ∧ Has m "bits" (.ref _)) ⟨rfl, HasI.of rfl rfl, HasI.of rfl rfl, rfl⟩ ?turn ?done
  case turn =>
    rintro i t m nx I oI h tk hi ⟨rfl, ⟨_, ha⟩, ⟨_, hb⟩, hr⟩ off F N
    replace F := canon_fr _ F (psC ha (psC hb (psC hr psN)))
    have hx : (ns.map PyData.int)[i]? = some (.int ns[i]) := by simp [hi]
    have hx4 := hn _ (List.getElem_mem hi)
    k_steps
    refine ⟨_, _, _, [], rfl, by assumption, by assumption, off, (fun _ h => (nomatch h)), rfl, HasI.of (by rfl) ?_, HasI.of (by rfl) ?_, by rfl⟩
    · exact made_lo hi
    · exact made_hi hi
  case done =>
    rintro m nx h tk ⟨rfl, ⟨_, ha⟩, ⟨_, hb⟩, hr⟩ F N
    replace F := canon_fr _ F (psC ha (psC hb (psC hr psN)))
    k_steps
    all_goals (refine hret _ _ _ (Fr.keep (by assumption)) ⟨_, fresh_of (by assumption), ?_⟩; walk_at "dt")
/- NF6 -/
def kindList : List Str := [Str.ofString "wire", Str.ofString "wand", Str.ofString "wor", Str.ofString "tri0", Str.ofString "tri1", Str.ofString "supply0", Str.ofString "supply1", Str.ofString "trireg", Str.ofString "tri", Str.ofString "uwire"]
set_option maxHeartbeats 4000000 in
theorem law_kinds_ct (w : World) : Pu w 136 1 [] (.list (kindList.map .str)) := by
  intro dp un gd fr s vs Q E G hpre hd hu hret
  walk_at "ct_open"
  ( (have X9 := Gd.k (by assumption)); (obtain ⟨_, _, _, _, _, T9⟩ := Gd.t (by assumption)); (refine wpAny_call ?_); (refine' enter (by assumption) X9 ?k6 ?k7 ?k8 ?k9 ?kB ?_ ?c2 ?c3 ?c4 ?c5); (case k6 => k_is); (case k7 => k_is); (case k8 => omega); (case k9 => rfl); (case kB => exact locs rfl); (case c2 => exact rfl); (case c3 => exact rfl); (case c4 => exact rfl); (case c5 => decide); intro L9 h9 tk9 fr9 F9 N9; (dsimp only [List.map, List.zip, List.zipWith, List.reverse, List.reverseAux] at F9 ⊢); (try k_fold))
  k_steps
  refine hret _ _ _ (Fr.keep (by assumption)) ⟨_, fresh_of (by assumption), ?_⟩
  unfold kindList
  dsimp only [List.map]
  walk_at "dt"
theorem ints_of {P : Addr → Obj → Prop} : ∀ {vs : List Value} {ns : List Int}, DtA P vs (ns.map .int) → IntsAre vs ns
  | _, [], .nil => .nil
  | _, _ :: _, .cons (.int _ _) r => .cons _ _ (ints_of r)
def maxAbs : List Int → Int
  | [] => 0
  | x :: r => max (absF x) (maxAbs r)
theorem maxAbs_le {fs : List Int} : ∀ x ∈ fs, absF x ≤ maxAbs fs := by
  induction fs with
  | nil => intro x h; exact nomatch h
  | cons y r ih =>
    intro x h
    rw [maxAbs]
    rcases List.mem_cons.mp h with rfl | h
    · exact Int.le_max_left _ _
    · exact Int.le_trans (ih x h) (Int.le_max_right _ _)
theorem absF_nn (x : Int) : 0 ≤ absF x := by unfold absF; split <;> omega
theorem maxAbs_nn : ∀ fs : List Int, 0 ≤ maxAbs fs
  | [] => Int.le_refl _
  | x :: r => Int.le_trans (absF_nn x) (Int.le_max_left _ _)
theorem maxAbs_mem {fs : List Int} (h : fs ≠ []) : maxAbs fs ∈ fs.map absF := by
  induction fs with
  | nil => exact absurd rfl h
  | cons y r ih =>
    rw [maxAbs, List.map_cons]
    by_cases e : r = []
    · subst e
      rw [maxAbs, Int.max_eq_left (absF_nn y)]
      exact .head _
    · rcases Int.le_total (absF y) (maxAbs r) with q | q
      · rw [Int.max_eq_right q]; exact .tail _ (ih e)
      · rw [Int.max_eq_left q]; exact .head _
theorem maxAbs_eq {fs : List Int} {M : Int} (h1 : M ∈ fs.map absF) (h2 : ∀ a ∈ fs.map absF, a ≤ M) : M = maxAbs fs := by
  have hne : fs ≠ [] := by rintro rfl; exact nomatch h1
  apply Int.le_antisymm
  · obtain ⟨x, hx, rfl⟩ := List.mem_map.mp h1
    exact maxAbs_le x hx
  · exact h2 _ (maxAbs_mem hne)
def outF (kind : Str) (fs : List Int) : Int :=
  if maxAbs fs = 0 then 2
  else if fs.any (· == -maxAbs fs) && fs.any (· == maxAbs fs) then (if kind == Str.ofString "wand" then 0 else if kind == Str.ofString "wor" then 1 else 3)
  else if fs.any (· == maxAbs fs) then 1 else 0
local macro_rules | `(tactic| walk_at "compareOp In int ref") => `(tactic| (k_dflt (refine in_list_ints (isList_of (Fr.keep (by assumption) _ _ (by assumption))) (by assumption) ?_)))
set_option maxHeartbeats 4000000 in
theorem law_outcome_ct (w : World) (kind : Str) (fs : List Int) (hne : fs ≠ []) (hlen : fs.length ≤ 64) : Pu w 155 1 [.str kind, .list (fs.map .int)] (.int (outF kind fs)) := by
  intro dp un gd fr s vs Q E G hpre hd hu hret
  walk_at "ct_open"
  rename DtA _ _ _ => hA
  rename _ = some (listOf _ _) => hobj
  have hvl := hA.len
  rw [List.length_map] at hvl
  have hIA := ints_of hA
  rename List Value => fv
  ( (have X9 := Gd.k (by assumption)); (obtain ⟨_, _, _, _, _, T9⟩ := Gd.t (by assumption)); (refine wpAny_call ?_); (refine' enter (by assumption) X9 ?k6 ?k7 ?k8 ?k9 ?kB ?_ ?c2 ?c3 ?c4 ?c5); (case k6 => k_is); (case k7 => k_is); (case k8 => omega); (case k9 => rfl); (case kB => exact locs rfl); (case c2 => exact rfl); (case c3 => exact rfl); (case c4 => exact rfl); (case c5 => decide); intro L9 h9 tk9 fr9 F9 N9; (dsimp only [List.map, List.zip, List.zipWith, List.reverse, List.reverseAux] at F9 ⊢); (try k_fold))
  k_steps
  refine comp_list (by assumption) (by assumption) (Fr.keep (by assumption) _ _ hobj) (i64 (by omega)) [] (.inl ⟨_, hobj⟩) (fun _ h => nomatch h) (fun i ys nx => nx = [] ∧ InA [] ys (((fs.take i).map absF).map .int)) ⟨rfl, .nil⟩ ?turn ?done
  case turn =>
    rintro i v ys nx C mc oL D nD I oI h tk hi hv ⟨rfl, hI⟩ hlen' hk F hm N off
    have hi' : i < fs.length := by omega
    have hx : (fs.map PyData.int)[i]? = some (.int fs[i]) := by simp [hi']
    have hd9 := hA.at hv hx
    walk_at "ct_open"
    replace F := canon_fr _ F (psC hm psN)
    k_steps
    (all_goals first | (show Addr; exact (0 : Nat)) | (show Str; exact Str.ofString "") | (show Value; exact Value.none) | (show List (Str × Addr); exact []) | skip)
    exact ⟨_, _, _, [], rfl, by assumption, by assumption, (fun _ h => (nomatch h)), (fun _ h => (nomatch h)), rfl, by rw [List.map_map, take_snoc _ hi', ← List.map_map]; exact hI.snoc (.int _ _)⟩
  case done =>
    rintro ys nx D nD h tk ⟨rfl, hI⟩ hlen' hkp F N off
    have hI2 := ints_of hI
    rw [show fs.take fv.length = fs by rw [hvl]; exact List.take_length] at hI2
    k_steps
    refine kso_max (by assumption) (by assumption) (isList_of (N _ (.head _)).1) hI2 (by rw [List.length_map]; exact List.length_pos_iff.mpr hne) rfl ?_
    intro h9 M t9 tk9 F9 N9 hM1 hM2
    obtain rfl := maxAbs_eq hM1 hM2
    k_steps
    all_goals (refine hret _ _ _ (Fr.keep (by assumption)) ⟨_, fresh_of (by assumption), dt_int ?_⟩)
    all_goals (clear hret; unfold outF; (repeat' split) <;> first | rfl | (exfalso; simp_all; done) | (exfalso; simp_all; rename (∀ (x : Int), x ∈ fs → ¬x = _) => q9; first | exact q9 _ (by assumption) rfl | exact q9 _ (And.right (by assumption)) rfl))
/- NF7 -/
theorem i256 {n : Nat} (h : n ≤ 256) : n ≤ sizeLine := by rw [sizeLine_eq]; omega
theorem canLayAll_map {α : Type} {f : α → PyData} (h : ∀ x, (f x).canLay0 = true) : ∀ l : List α, PyData.canLayAll0 (l.map f) = true
  | [] => by simp [PyData.canLayAll0]
  | x :: r => by simp [PyData.canLayAll0, h x, canLayAll_map h r]
theorem depthAll_map {α : Type} {f : α → PyData} {k : Nat} (h : ∀ x, (f x).depth ≤ k) : ∀ l : List α, PyData.depthAll (l.map f) ≤ k
  | [] => by simp [PyData.depthAll]
  | x :: r => by
    have := depthAll_map h r
    have := h x
    simp only [List.map_cons, PyData.depthAll]; omega
theorem shaped_list {α : Type} {f : α → PyData} {k : Nat} (hk : k < 63) (h : ∀ x, (f x).canLay0 = true) (h' : ∀ x, (f x).depth ≤ k) (l : List α) : SeqAt.shaped (.list (l.map f)) = true := by
  have := depthAll_map h' l
  simp only [SeqAt.shaped, PyData.canLay0, canLayAll_map h l, PyData.depth, Bool.true_and]
  exact decide_eq_true (by omega)
theorem shaped_ints (l : List Int) : SeqAt.shaped (.list (l.map .int)) = true := shaped_list (k := 0) (by omega) (fun _ => by simp [PyData.canLay0]) (fun _ => by simp [PyData.depth]) l
theorem eqv_nil_cons (ns : List Int) (h : ns ≠ []) : PyData.eqv (.list (ns.map .int)) (.list ([].map .int)) = false := by
  cases ns with
  | nil => exact absurd rfl h
  | cons x r => simp [PyData.eqv, PyData.eqvAll]
theorem kl_snoc : ∀ (p : List Value) (y : Value), kl_last (p ++ [y]) = some (p, y)
  | [], _ => rfl
  | x :: r, y => by show (match kl_last (r ++ [y]) with | some (p, y) => some (x :: p, y) | none => some ([], x)) = _; rw [kl_snoc r y]
theorem ints_snoc {us : List Value} {ns : List Int} (h : Ints us ns) (hne : ns ≠ []) : ∃ p t, us = p ++ [.int (ns.getLast hne) t] ∧ Ints p ns.dropLast := by
  induction ns generalizing us with
  | nil => exact absurd rfl hne
  | cons x r ih =>
    cases h with
    | cons hx hr =>
      cases hx with
      | int _ t =>
        by_cases e : r = []
        · subst e
          cases hr
          exact ⟨[], t, rfl, .nil⟩
        · obtain ⟨p, t', rfl, hp⟩ := ih hr e
          refine ⟨_ :: p, t', by rw [List.getLast_cons e]; rfl, ?_⟩
          rw [List.dropLast_cons_of_ne_nil e]
          exact .cons (.int x t) hp
theorem rowOk_pop {ns : List Int} (h : RowOk ns) : RowOk ns.dropLast :=
  ⟨by rw [List.length_dropLast]; omega, fun x hx => h.2 x (List.dropLast_subset _ hx)⟩
abbrev IsNum (d : PyData) : Prop := ∃ x, d = .int x ∧ 0 ≤ x ∧ x < 1024
theorem dt_int_data {h : Heap} {r : Addr} {us : List Value} {n : Nat} {ns : List Int} (hr : h.get? r = some (listOf us.toArray n)) (hI : Ints us ns) : Rd h (.ref r) (.list (ns.map .int)) :=
  .list hr (DtA.mono (fun _ _ q => q.elim) hI)
theorem Cr.done {s : Shared} {r : Addr} {Q : Value → Shared → Prop} {D : PyData → Prop} {L : Addr} {h' : Heap} {m : Str → Option Value} {us' : List Value} {n' : Nat} {ns' : List Int} {tk : Nat} {news tl : List (Addr × Obj)} {v : Value} {d : PyData} {ro : Obj}
    (hret : ∀ v h' tk us' n' ns' tl d, Grow (hideAll s.heap [r]) h' → h'.get? r = some (listOf (List.toArray us') n') → Ints us' ns' → RowOk ns' → Fresh s.heap h' tl → In tl v d → D d → Q v { s with heap := h', toks := tk })
    (F : Fr (hideAll s.heap [r]) L h' m) (N : News (hideAll s.heap [r]) L h' news) (hr : s.heap.get? r = some ro) (hm : (r, listOf (List.toArray us') n') ∈ news) (hI : Ints us' ns') (ok : RowOk ns') (ht : ∀ p ∈ tl, p ∈ news) (hne : ∀ p ∈ tl, p.1 ≠ r) (I : In tl v d) (hd : D d) : Q v { s with heap := h', toks := tk } := by
  refine hret v h' tk us' n' ns' tl d F.keep (N _ hm).1 hI ok (fun p hp => ⟨(N p (ht p hp)).1, ?_⟩) I hd
  have := (N p (ht p hp)).2.2
  cases e : s.heap.get? p.1 with
  | none => rfl
  | some o => rw [hideAll_get _ e (fun q => hne p hp (List.mem_singleton.mp q))] at this; cases this
set_option maxHeartbeats 4000000 in
theorem law_next_ct (w : World) : Cr w 115 1 (fun vs => vs = []) IsNum := by
  intro dp un gd fr s r vs us n ns Q E G hr hI ok hpre hd hu hret
  subst hpre
  have hul := hI.len
  rw [List.length_map] at hul
  have hl160 := ok.1
  by_cases hne : ns = []
  · subst hne
    cases hI
    ( (have X9 := Gd.k (by assumption)); (obtain ⟨_, _, _, _, _, T9⟩ := Gd.t (by assumption)); (refine wpAny_call ?_); (refine' enterH (by assumption) X9 (by assumption) ?k6 ?k7 ?k8 ?k9 ?kB ?_ ?c2 ?c3 ?c4 ?c5); (case k6 => k_is); (case k7 => k_is); (case k8 => omega); (case k9 => rfl); (case kB => exact locs rfl); (case c2 => exact rfl); (case c3 => exact rfl); (case c4 => exact rfl); (case c5 => decide); intro L9 h9 tk9 fr9 F9 N9 lr9; (dsimp only [List.map, List.zip, List.zipWith, List.reverse, List.reverseAux] at F9 ⊢); (try k_fold))
    k_steps
    exact Cr.done (s := s) hret (by assumption) (by assumption) hr (.tail _ (.head _)) .nil ok (tl := []) (fun _ q => nomatch q) (fun _ q => nomatch q) (.int _ _) ⟨_, rfl, by omega, by omega⟩
  · have hx := ok.2 _ (List.getLast_mem hne)
    have ok2 := rowOk_pop ok
    obtain ⟨p, t, rfl, hp⟩ := ints_snoc hI hne
    ( (have X9 := Gd.k (by assumption)); (obtain ⟨_, _, _, _, _, T9⟩ := Gd.t (by assumption)); (refine wpAny_call ?_); (refine' enterH (by assumption) X9 (by assumption) ?k6 ?k7 ?k8 ?k9 ?kB ?_ ?c2 ?c3 ?c4 ?c5); (case k6 => k_is); (case k7 => k_is); (case k8 => omega); (case k9 => rfl); (case kB => exact locs rfl); (case c2 => exact rfl); (case c3 => exact rfl); (case c4 => exact rfl); (case c5 => decide); intro L9 h9 tk9 fr9 F9 N9 lr9; (dsimp only [List.map, List.zip, List.zipWith, List.reverse, List.reverseAux] at F9 ⊢); (try k_fold))
    k_steps
    rename News _ _ _ _ => N9
    refine ne_rd (dt_int_data (N9 _ (.tail _ (.head _))).1 hI) (dt_int_data (ns := []) (N9 _ (.head _)).1 .nil) (shaped_ints _) (shaped_ints _) (by dsimp only; omega) (eqv_nil_cons ns hne) ?_
    k_steps
    refine kl_pop (by assumption) N9 (kl_snoc p _) (Upd.tail (by k_ne) (Upd.head (fun _ q => nomatch q))) (i256 (by rw [hul]; omega)) ?_
    intro h9 F9 N9
    k_steps
    exact Cr.done (s := s) hret F9 N9 hr (.tail _ (.head _)) hp ok2 (tl := []) (fun _ q => nomatch q) (fun _ q => nomatch q) (.int _ _) ⟨_, rfl, hx.1, hx.2⟩
/- NF8 -/
local macro_rules | `(tactic| walk_at "call ref") => `(tactic| (k_dflt ((with_reducible show wpAny _ _ (call (Value.ref 115) [_]) _ _ _); (refine' Cr.use (law_next_ct _) ?g ?f ?n ?U ?i ?ok ?p ?d ?u ?_); (case g => assumption); (case f => assumption); (case n => assumption); (case U => k_updF); (case i => assumption); (case ok => assumption); (case p => rfl); (case d => omega); (case u => omega); intro v9 h9 tk9 us9 n9 ns9 tl9 d9 F9 N9 O9 I9 R9 T9 D9; (obtain ⟨x9, e9, lo9, hi9⟩ := D9); subst e9; cases T9; (try dsimp only at N9 O9); (try simp only [List.cons_append, List.nil_append, List.append_assoc] at N9); (try dsimp only); (try k_fold))))
theorem sub_tab {w : World} {A : Around} {s : Shared} {E : Value → Shared → Prop} {value slice : Expr} {h₀ : Heap} {L : Addr} {news : List (Addr × Obj)} {l : Addr} {vs : List Value} {n : Nat} {k : Int} {u : Tok} {ds : List PyData} {tl : List (Addr × Obj)} {Q : Value → Shared → Prop} (j c : Nat)
    (N : News h₀ L s.heap news) (hm : (l, listOf vs.toArray n) ∈ news) (_ : news.take j = tl) (hi : InA tl vs ds) (hc : ds.length = c) (h0 : 0 ≤ k ∧ k < c) (hc2 : c < 1000) (h : ∀ v d, ds[k.toNat]? = some d → In tl v d → Q v s)
    (hs : subscripted slice false (.ref l) (.int k u) = operate [.ref l, .int k u] (getItem (.ref l) (.int k u)) := by with_unfolding_all rfl) :
    wpAny (model PR w) A (subscriptTail value slice (.ref l) (.int k u)) Q E s := by
  have hk : k.toNat < ds.length := by omega
  obtain ⟨v, h1, h2⟩ := hi.get (List.getElem?_eq_getElem hk)
  have hL := isList_of (N _ hm).1
  exact tail_any hL.typeIs slot_list_getitem.lookup (wpAny_getItem_list hL h0.1 (by omega) (by simpa using h1) (h v _ (List.getElem?_eq_getElem hk) h2)) hs
abbrev DrvOk (p : Int × Int) : Prop := p.1 ≤ p.2 ∧ -7 ≤ p.1 ∧ p.2 ≤ 7
def Halt (P : Prop) : Prop := P
theorem halt {P : Prop} (h : Halt P) : P := h
theorem fm8 (x : Int) : Int.fmod x 8 = x % 8 := Int.fmod_eq_emod_of_nonneg _ (by omega)
theorem fm6 (x : Int) : Int.fmod x 6 = x % 6 := Int.fmod_eq_emod_of_nonneg _ (by omega)
theorem rng6 (x : Int) : 0 ≤ Int.fmod x 6 ∧ Int.fmod x 6 < ((6 : Nat) : Int) := by rw [fm6]; omega
theorem drv_mem (x y : Int) {k : Nat} {d : PyData} (h : [prD (-Int.fmod x 8) (-Int.fmod x 8), prD (Int.fmod y 8) (Int.fmod y 8), prD 0 0, prD (-Int.fmod x 8) (Int.fmod y 8), prD (-Int.fmod x 8) 0, prD 0 (Int.fmod y 8)][k]? = some d) : ∃ p, d = prP p ∧ DrvOk p := by
  have hm := List.mem_of_getElem? h
  simp only [fm8] at hm
  simp only [List.mem_cons, List.not_mem_nil, or_false] at hm
  rcases hm with rfl | rfl | rfl | rfl | rfl | rfl
  · exact ⟨(-(x % 8), -(x % 8)), rfl, by simp only [DrvOk]; omega⟩
  · exact ⟨(y % 8, y % 8), rfl, by simp only [DrvOk]; omega⟩
  · exact ⟨(0, 0), rfl, by simp only [DrvOk]; omega⟩
  · exact ⟨(-(x % 8), y % 8), rfl, by simp only [DrvOk]; omega⟩
  · exact ⟨(-(x % 8), 0), rfl, by simp only [DrvOk]; omega⟩
  · exact ⟨(0, y % 8), rfl, by simp only [DrvOk]; omega⟩
abbrev IsDrv (d : PyData) : Prop := ∃ p, d = prP p ∧ DrvOk p
set_option maxHeartbeats 4000000 in
theorem law_driver_ct (w : World) : Cr w 143 3 (fun vs => vs = []) IsDrv := by
  intro dp un gd fr s r vs us n ns Q E G hr hI ok hpre hd hu hret
  subst hpre
  have hul := hI.len
  rw [List.length_map] at hul
  have hl160 := ok.1
  ( (have X9 := Gd.k (by assumption)); (obtain ⟨_, _, _, _, _, T9⟩ := Gd.t (by assumption)); (refine wpAny_call ?_); (refine' enterH (by assumption) X9 (by assumption) ?k6 ?k7 ?k8 ?k9 ?kB ?_ ?c2 ?c3 ?c4 ?c5); (case k6 => k_is); (case k7 => k_is); (case k8 => omega); (case k9 => rfl); (case kB => exact locs rfl); (case c2 => exact rfl); (case c3 => exact rfl); (case c4 => exact rfl); (case c5 => decide); intro L9 h9 tk9 fr9 F9 N9 lr9; (dsimp only [List.map, List.zip, List.zipWith, List.reverse, List.reverseAux] at F9 ⊢); (try k_fold))
  k_steps
  unfold Halt
  k_dflt (refine' sub_tab (ds := [prD _ _, prD _ _, prD _ _, prD _ _, prD _ _, prD _ _]) 7 6 (by assumption) (by k_mem) (by simp only [List.take_succ_cons, List.take_zero]; rfl) (by walk_at "dt") (by rfl) (rng6 _) (by decide) ?_)
  intro v9 d9 hd9 hI9
  k_steps
  refine Cr.done (s := s) hret (by assumption) (by assumption) hr (by k_mem) (by assumption) (by assumption) ?ht ?hne hI9 (drv_mem _ _ hd9)
  case ht => intro p hp; exact List.mem_append_left _ hp
  case hne => k_all
/- NF9 -/
theorem News.sub {h₀ h : Heap} {L : Addr} {l l' : List (Addr × Obj)} (N : News h₀ L h l) (g : ∀ p ∈ l', p ∈ l) : News h₀ L h l' := fun p hp => N p (g p hp)
theorem News.take {h₀ h : Heap} {L : Addr} {l : List (Addr × Obj)} (j : Nat) (N : News h₀ L h l) : News h₀ L h (l.take j) := fun p hp => N p (List.mem_of_mem_take hp)
theorem ints_add {us : List Value} {ns : List Int} {x : Int} {t : Tok} (h : Ints us ns) : Ints (us ++ [.int x t]) (ns ++ [x]) := by
  unfold Ints; rw [List.map_append]; exact DtA.snoc h (.int x t)
abbrev Two (ns : List Int) : Prop := ∀ x ∈ ns, 0 ≤ x ∧ x < 4
abbrev IsBits (n : Nat) (d : PyData) : Prop := ∃ ns : List Int, d = .list (ns.map .int) ∧ ns.length = n ∧ Two ns
theorem two_add {cs : List Int} {y : Int} (h : Two cs) : Two (cs ++ [y.fmod 4]) := by
  intro x hx
  rcases List.mem_append.mp hx with q | q
  · exact h x q
  · rw [List.mem_singleton.mp q, Int.fmod_eq_emod_of_nonneg _ (by omega)]; omega
theorem ints_from {vs : List Value} {ns : List Int} (h : IntsAre vs ns) : Ints vs ns := by
  induction h with
  | nil => exact .nil
  | cons n t _ ih => exact .cons (.int n t) ih
set_option maxHeartbeats 4000000 in
theorem law_bits_ct (w : World) (wd : Nat) (hw : wd ≤ 60) : Cr w 122 3 (fun vs => ∃ t, vs = [.int wd t]) (IsBits wd) := by
  intro dp un gd fr s r vs us n ns Q E G hr hI ok hpre hd hu hret
  obtain ⟨t, rfl⟩ := hpre
  have hul := hI.len
  rw [List.length_map] at hul
  have hl160 := ok.1
  ( (have X9 := Gd.k (by assumption)); (obtain ⟨_, _, _, _, _, T9⟩ := Gd.t (by assumption)); (refine wpAny_call ?_); (refine' enterH (by assumption) X9 (by assumption) ?k6 ?k7 ?k8 ?k9 ?kB ?_ ?c2 ?c3 ?c4 ?c5); (case k6 => k_is); (case k7 => k_is); (case k8 => omega); (case k9 => rfl); (case kB => exact locs rfl); (case c2 => exact rfl); (case c3 => exact rfl); (case c4 => exact rfl); (case c5 => decide); intro L9 h9 tk9 fr9 F9 N9 lr9; (dsimp only [List.map, List.zip, List.zipWith, List.reverse, List.reverseAux] at F9 ⊢); (try k_fold))
  k_steps
  rename IsRange _ _ _ _ _ _ _ _ => hR
  rw [show ((wd : Int) + 4).fdiv 5 = (((wd + 4) / 5 : Nat) : Int) by rw [Int.fdiv_eq_ediv_of_nonneg _ (by omega)]; omega] at hR
  rename r < _ => hlt
  refine for_range0 (by assumption) (by assumption) hR (by omega) (fun i m nx => ∃ Bb bs nb cs us nu ns, nx = [(Bb, listOf (List.toArray bs) nb), (r, listOf (List.toArray us) nu)] ∧ @LT.lt Nat _ r Bb ∧ Ints bs cs ∧ cs.length = 5 * i ∧ Two cs ∧ Ints us ns ∧ RowOk ns ∧ Has m "bits" (.ref Bb) ∧ Has m "row" (.ref r) ∧ HasI m "wide" wd) ⟨_, [], _, [], us, _, ns, rfl, hlt, .nil, rfl, (fun _ h => nomatch h), hI, ok, rfl, rfl, HasI.of rfl rfl⟩ ?turn ?done
  case turn =>
    rintro i t m nx I oI h tk hi ⟨Bb, bs, nb, cs, us, nu, ns, rfl, hlt, hBI, hcl, hc2, hI, ok, hbi, hro, ⟨_, hwi⟩⟩ off F N
    replace F := canon_fr _ F (psC hbi (psC hro (psC hwi psN)))
    have hIB : @Ne Nat Bb I := off _ (.head _)
    have hIr : @Ne Nat r I := off _ (.tail _ (.head _))
    k_steps
    rename News _ _ _ _ => N9
    replace N9 := News.take 3 N9
    simp only [List.take_succ_cons, List.take_zero] at N9
    refine for_range0 (n := 5) (by assumption) N9 (by assumption) (by omega) (fun j m nx => ∃ bs nb cs us nu ns y, nx = [(I, oI), (Bb, listOf (List.toArray bs) nb), (r, listOf (List.toArray us) nu)] ∧ Ints bs cs ∧ cs.length = 5 * i + j ∧ Two cs ∧ Ints us ns ∧ RowOk ns ∧ 0 ≤ y ∧ y < 1024 ∧ HasI m "number" y ∧ Has m "bits" (.ref Bb) ∧ Has m "row" (.ref r) ∧ HasI m "wide" wd) ⟨bs, _, cs, _, _, _, _, rfl, hBI, hcl, hc2, by assumption, by assumption, by assumption, by assumption, HasI.of rfl rfl, rfl, rfl, HasI.of rfl rfl⟩ ?turn2 ?done2
    case turn2 =>
      rintro j t m nx I2 oI2 h tk hj ⟨bs, nb, cs, us, nu, ns, y, rfl, hBI, hcl, hc2, hI, ok, hy0, hy1, ⟨_, hnu⟩, hbi, hro, ⟨_, hwi⟩⟩ off F N
      replace F := canon_fr _ F (psC hnu (psC hbi (psC hro (psC hwi psN))))
      have hI2B : @Ne Nat Bb I2 := off _ (.tail _ (.head _))
      have hI2r : @Ne Nat r I2 := off _ (.tail _ (.tail _ (.head _)))
      have hI2I : @Ne Nat I I2 := off _ (.head _)
      have hbl := hBI.len
      rw [List.length_map] at hbl
      k_steps
      rename News _ _ _ _ => N9
      (try simp only [List.push_toArray] at N9)
      refine ⟨_, _, _, _, rfl, by assumption, N9, ?_, (fun _ h => nomatch h), bs ++ [_], _, cs ++ [y.fmod 4], us, nu, ns, y.fdiv 4, rfl, ints_add hBI, by simp [hcl]; omega, two_add hc2, hI, ok, ?_, ?_, HasI.of (by rfl) rfl, by rfl, by rfl, HasI.of (by rfl) rfl⟩
      · k_all
      · rw [Int.fdiv_eq_ediv_of_nonneg _ (by omega)]; omega
      · rw [Int.fdiv_eq_ediv_of_nonneg _ (by omega)]; omega
    case done2 =>
      rintro m nx h tk ⟨bs, nb, cs, us, nu, ns, y, rfl, hBI, hcl, hc2, hI, ok, hy0, hy1, ⟨_, hnu⟩, hbi, hro, ⟨_, hwi⟩⟩ F N
      replace F := canon_fr _ F (psC hnu (psC hbi (psC hro (psC hwi psN))))
      k_steps
      exact ⟨_, _, _, [(Bb, listOf (List.toArray bs) nb), (r, listOf (List.toArray us) nu)], rfl, by assumption, by assumption, (by k_all), (fun _ h => nomatch h), Bb, bs, nb, cs, us, nu, ns, rfl, hlt, hBI, by omega, hc2, hI, ok, by rfl, by rfl, HasI.of (by rfl) rfl⟩
  case done =>
    rintro m nx h tk ⟨Bb, bs, nb, cs, us, nu, ns, rfl, hlt, hBI, hcl, hc2, hI, ok, hbi, hro, ⟨_, hwi⟩⟩ F N
    replace F := canon_fr _ F (psC hbi (psC hro (psC hwi psN)))
    have hBIA := ints_of hBI
    k_steps
    rename News _ _ _ _ => N9
    refine Cr.done (s := s) hret (by assumption) N9 hr (.tail _ (.tail _ (.head _))) hI ok (tl := [(_, _)]) (fun p hp => List.mem_append_left _ hp) (by k_all) (.list (.head _) (DtA.mono (fun _ _ q => q.elim) (ints_from (by assumption)))) ⟨cs.take wd, rfl, ?_, fun x hx => hc2 x (List.mem_of_mem_take hx)⟩
    rw [List.length_take]
    omega
/- NG -/
/- a comprehension of two clauses -/
section
variable {w : World} {A : Around}
abbrev two (elt : Expr) (x y : Str) (px py : Pos) (iter iter2 : Expr) (scope : Scope) (pos : Pos) : Expr := .ListComp elt [⟨.Name x px, iter, [], 0⟩, ⟨.Name y py, iter2, [], 0⟩] scope pos
theorem compTurn_two0 (elt : Expr) (x y : Str) (px py : Pos) (iter iter2 : Expr) (scope : Scope) (pos : Pos) (it acc : Value) (env : Env) :
    compTurn (two elt x y px py iter iter2 scope pos) 0 it acc env = (standAt iter.pos >>= fun _ => pyNext it >>= fun r => match r with
      | none => pure (.done .next)
      | some v => letOwnedTupleGo (.Name x px) it v >>= fun _ => assign (.Name x px) env v >>= fun _ =>
        (eval iter2 env >>= fun x' => standAt iter2.pos >>= fun _ => foldedSetIterable iter2 env x' >>= fun x' => holding [x'] (pyIter x') >>= fun it2 =>
          runOwn (.compStart (two elt x y px py iter iter2 scope pos) 1 it2 acc env) env >>= fun _ =>
          again (.compLoop (two elt x y px py iter iter2 scope pos) 0 it acc env))) := by rfl
theorem compTurn_two1 (elt : Expr) (x y : Str) (px py : Pos) (iter iter2 : Expr) (scope : Scope) (pos : Pos) (it acc : Value) (env : Env) :
    compTurn (two elt x y px py iter iter2 scope pos) 1 it acc env = (standAt iter2.pos >>= fun _ => pyNext it >>= fun r => match r with
      | none => pure (.done .next)
      | some v => letOwnedTupleGo (.Name y py) it v >>= fun _ => assign (.Name y py) env v >>= fun _ =>
        (eval elt env >>= fun x => call (.builtin "list.append") [acc, x] >>= fun _ => pure ()) >>= fun _ =>
          again (.compLoop (two elt x y px py iter iter2 scope pos) 1 it acc env)) := by rfl
theorem NoE_any {E : Value → Shared → Prop} : ∀ v s, NoE v s → E v s := fun _ _ h => h.elim
theorem loop_two0 {elt : Expr} {x y : Str} {px py : Pos} {iter iter2 : Expr} {scope : Scope} {pos : Pos} {it acc : Value} {env : Env} {s : Shared} {R : Result → Shared → Prop} (I : Nat → Shared → Prop)
    (turn : ∀ n s, I n s → wpAny (model PR w) A (pyNext it) (fun r s₁ => match r with
      | none => R (.ok .next) s₁
      | some v => wpAny (model PR w) A (assign (.Name x px) env v) (fun _ s₂ => wpAny (model PR w) A (eval iter2 env) (fun xv s₃ => wpAny (model PR w) A (pyIter xv) (fun it2 s₄ =>
          codeAny (model PR w) A (.compStart (two elt x y px py iter iter2 scope pos) 1 it2 acc env) (fun r s₅ => match r with | .ok _ => ∃ m, m < n ∧ I m s₅ | .error _ => False) s₄) NoE s₃) NoE s₂) NoE s₁) NoE s)
    (n : Nat) (h : I n s) (hs : ∀ x', foldedSetIterable iter2 env x' = pure x') :
    codeAny (model PR w) A (.compLoop (two elt x y px py iter iter2 scope pos) 0 it acc env) R s := by
  refine codeAny_loop rfl I (fun n s hI => ?_) n h
  show wpAny _ _ ((compTurn (two elt x y px py iter iter2 scope pos) 0 it acc env).onRaise (fun x => do noteFrame x env; theTreesLotGoes x)) _ _ s
  refine wpAny_noted ?_
  rw [compTurn_two0]
  refine wpAny_bind (wpAny_standAt (wpAny_bind (wpAny_mono (turn n s hI) (fun r s₁ h₁ => ?_) NoE_any)))
  cases r with
  | none => exact wpAny_pure h₁
  | some v =>
    refine wpAny_bind (wpAny_of_eq (rfl : letOwnedTupleGo (.Name x px) it v = pure ()) ?_)
    refine wpAny_bind (wpAny_mono h₁ (fun _ s₂ h₂ => wpAny_bind (wpAny_mono h₂ (fun xv s₃ h₃ => wpAny_bind (wpAny_standAt (wpAny_bind (wpAny_of_eq (hs xv) (wpAny_bind (wpAny_holding (wpAny_mono h₃ (fun it2 s₄ h₄ => ?_) NoE_any))))))) NoE_any)) NoE_any)
    refine wpAny_bind (wpAny_runOwn (codeAny_mono h₄ fun r s₅ h₅ => ?_))
    cases r with
    | ok f => exact wpAny_pure ⟨rfl, h₅⟩
    | error e => exact h₅.elim
theorem loop_two1 {elt : Expr} {x y : Str} {px py : Pos} {iter iter2 : Expr} {scope : Scope} {pos : Pos} {it acc : Value} {env : Env} {s : Shared} {R : Result → Shared → Prop} (I : Nat → Shared → Prop)
    (turn : ∀ n s, I n s → wpAny (model PR w) A (pyNext it) (fun r s₁ => match r with
      | none => R (.ok .next) s₁
      | some v => wpAny (model PR w) A (assign (.Name y py) env v) (fun _ s₂ => wpAny (model PR w) A (eval elt env) (fun xv s₃ => wpAny (model PR w) A (call (.builtin "list.append") [acc, xv]) (fun _ s₄ => ∃ m, m < n ∧ I m s₄) NoE s₃) NoE s₂) NoE s₁) NoE s)
    (n : Nat) (h : I n s) :
    codeAny (model PR w) A (.compLoop (two elt x y px py iter iter2 scope pos) 1 it acc env) R s := by
  refine codeAny_loop rfl I (fun n s hI => ?_) n h
  show wpAny _ _ ((compTurn (two elt x y px py iter iter2 scope pos) 1 it acc env).onRaise (fun x => do noteFrame x env; theTreesLotGoes x)) _ _ s
  refine wpAny_noted ?_
  rw [compTurn_two1]
  refine wpAny_bind (wpAny_standAt (wpAny_bind (wpAny_mono (turn n s hI) (fun r s₁ h₁ => ?_) NoE_any)))
  cases r with
  | none => exact wpAny_pure h₁
  | some v =>
    refine wpAny_bind (wpAny_of_eq (rfl : letOwnedTupleGo (.Name y py) it v = pure ()) ?_)
    exact wpAny_bind (wpAny_mono h₁ (fun _ s₂ h₂ => wpAny_bind (wpAny_bind (wpAny_mono h₂ (fun xv s₃ h₃ => wpAny_bind (wpAny_mono h₃ (fun _ s₄ h₄ => wpAny_pure (wpAny_pure ⟨rfl, h₄⟩)) NoE_any)) NoE_any))) NoE_any)
theorem start_two1 {elt : Expr} {x y : Str} {px py : Pos} {iter iter2 : Expr} {scope : Scope} {pos : Pos} {it acc : Value} {env : Env} {s : Shared} {R : Result → Shared → Prop}
    (h0 : codeAny (model PR w) A (.compLoop (two elt x y px py iter iter2 scope pos) 1 it acc env) R s)
    (h : wpAny (model PR w) A (pyIter it) (fun it' s' => codeAny (model PR w) A (.compLoop (two elt x y px py iter iter2 scope pos) 1 it' acc env) R s') NoE s) :
    codeAny (model PR w) A (.compStart (two elt x y px py iter iter2 scope pos) 1 it acc env) R s := by
  refine codeAny_of_tree ?_
  show wpAny _ _ ((compStart (two elt x y px py iter iter2 scope pos) 1 it acc env).onRaise (fun x => do noteFrame x env; standAt theWindowsPlace)) _ _ s
  refine wpAny_notedAt ?_
  unfold compStart
  show wpAny _ _ (ask >>= _) _ _ s
  refine wpAny_bind (wpAny_askSetting (wpAny_ite ?_))
  split
  · first
      | exact wpAny_bind (wpAny_pure (wpAny_pure (And.intro rfl h0)))
      | exact wpAny_pure (And.intro rfl h0)
  · first
      | exact wpAny_bind (wpAny_rule (wpAny_bind (wpAny_standAt (wpAny_bind (wpAny_mono h (fun it' s' h' => wpAny_pure (And.intro rfl h')) NoE_any)))))
      | (refine wpAny_bind (wpAny_rule ?_); show wpAny _ _ (standAt iter2.pos >>= _) _ _ s; exact wpAny_bind (wpAny_standAt (wpAny_bind (wpAny_mono h (fun it' s' h' => wpAny_pure (And.intro rfl h')) NoE_any))))
end
/- NG2 -/
section
variable {w : World} {A : Around} {h₀ : Heap}
abbrev W3 (L : Addr) (oL : Obj) (D : Addr) (ys : List Value) (nD : Nat) (I : Addr) (oI : Obj) : List (Addr × Obj) := [(L, oL), (D, listOf (List.toArray ys) nD), (I, oI)]
abbrev Off (nx w3 : List (Addr × Obj)) : Prop := ∀ p ∈ nx, ∀ q ∈ w3, p.1 ≠ q.1
def End2 (h₀ : Heap) (C : Addr) (x : Str) (v : Value) (w4 keep : List (Addr × Obj)) (J : List Value → List (Addr × Obj) → Prop) (s₁ : Shared) (ys : List Value) (yv : Value) (s' : Shared) : Prop :=
  ∃ h' tk mc nx, s' = { s₁ with heap := h', toks := tk } ∧ Fr h₀ C h' mc ∧ mc x = some v ∧ News h₀ C h' (w4 ++ nx) ∧ Off nx w4 ∧ (∀ p ∈ keep, p ∈ nx) ∧ J (ys ++ [yv]) nx
theorem inner_core {cenv : Env} {scope : Scope} {x y : Str} {px py pos : Pos} {elt iter iter2 : Expr} {L D I C : Addr} {oL oI : Obj} {keep keep2 : List (Addr × Obj)} {n : Nat} {P : Nat → Value → Prop} {J : Nat → List Value → List (Addr × Obj) → Prop} {s₁ s₂ : Shared} {it v : Value} {ys : List Value} {nD : Nat} {nx : List (Addr × Obj)} {mc : Str → Option Value} {R : Result → Shared → Prop}
    (hC : cenv.locals = C) (hy : cenv.kindOf y = some .local) (hp : (cenv.scope.kind == .class || (cenv.scope.kind == .module && cenv.locals != cenv.globals)) = false) (hxy : x ≠ y)
    (hit : IterOn w A h₀ keep2 it n P s₁ s₂) (F : Fr h₀ C s₁.heap mc) (hm : mc x = some v) (N : News h₀ C s₁.heap (W3 L oL D ys nD I oI ++ nx)) (off : Off nx (W3 L oL D ys nD I oI))
    (hLD : L ≠ D) (hDI : D ≠ I) (hk : ∀ p ∈ keep, p ∈ nx) (hk2 : ∀ p ∈ keep2, p ∈ keep) (hJ : J 0 ys nx) (hJs : ∀ j ys nx, J j ys nx → ys.length ≤ 1000)
    (turn : ∀ j u ys nx mc nD I2 oI2 h tk, j < n → P j u → J j ys nx → (∀ p ∈ keep, p ∈ nx) → Fr h₀ C h mc → mc x = some v → mc y = some u → News h₀ C h (W3 L oL D ys nD I oI ++ [(I2, oI2)] ++ nx) → Off nx (W3 L oL D ys nD I oI ++ [(I2, oI2)]) →
      wpAny (model PR w) A (eval elt cenv) (End2 h₀ C x v (W3 L oL D ys nD I oI ++ [(I2, oI2)]) keep (J (j + 1)) s₁ ys) NoE { s₁ with heap := h, toks := tk })
    (done : ∀ ys nx nD mc h tk, J n ys nx → (∀ p ∈ keep, p ∈ nx) → Fr h₀ C h mc → mc x = some v → News h₀ C h (W3 L oL D ys nD I oI ++ nx) → Off nx (W3 L oL D ys nD I oI) → R (.ok .next) { s₁ with heap := h, toks := tk }) :
    codeAny (model PR w) A (.compStart (two elt x y px py iter iter2 scope pos) 1 it (.ref D) cenv) R s₂ := by
  obtain ⟨I2, oI2, fp, St, rfl, W, hst, rfl, rfl, hfr, hob, hfp⟩ := hit
  subst hC
  have hCI : cenv.locals ≠ s₁.heap.objs.size := Nat.ne_of_lt F.ns.lt
  have hI0 := size_none F
  have dI2 : ∀ p ∈ W3 L oL D ys nD I oI ++ nx, p.1 ≠ s₁.heap.objs.size := fun p hp => Nat.ne_of_lt (Heap.lt_size (N p hp).1)
  have dL : L ≠ s₁.heap.objs.size := dI2 (L, oL) (.head _)
  have dD : D ≠ s₁.heap.objs.size := dI2 (D, listOf (List.toArray ys) nD) (.tail _ (.head _))
  have dII : I ≠ s₁.heap.objs.size := dI2 (I, oI) (.tail _ (.tail _ (.head _)))
  have loop : ∀ s₃ : Shared, s₃ = { s₁ with heap := s₁.heap.push oI2 } → codeAny (model PR w) A (.compLoop (two elt x y px py iter iter2 scope pos) 1 (.ref s₁.heap.objs.size) (.ref D) cenv) R s₃ := by
    rintro s₃ rfl
    refine loop_two1 (fun k s' => ∃ h' tk mc ys nD nx' j, s' = { s₁ with heap := h', toks := tk } ∧ St j h' ∧ Fr h₀ cenv.locals h' mc ∧ mc x = some v ∧ News h₀ cenv.locals h' (W3 L oL D ys nD I oI ++ nx') ∧ Off nx' (W3 L oL D ys nD I oI) ∧ (∀ p ∈ nx', p.1 ≠ s₁.heap.objs.size) ∧ (∀ p ∈ keep, p ∈ nx') ∧ J j ys nx' ∧ j ≤ n ∧ k = n + 1 - j) ?_ (n + 1)
      ⟨_, _, mc, ys, nD, nx, 0, rfl, hst, F.push _, hm, (fun p hp => ⟨Heap.get?_push_of_some _ (N p hp).1, (N p hp).2⟩), off, (fun p hp => dI2 p (List.mem_append_right _ hp)), hk, hJ, Nat.zero_le _, rfl⟩
    rintro k s' ⟨h', tk, mc, ys, nD, nx', j, rfl, hst', F', hm', N', off', offI, hk', hJ', hj, rfl⟩
    have nI : ∀ p ∈ W3 L oL D ys nD I oI ++ nx', p.1 ≠ s₁.heap.objs.size := fun p hp => by
      rcases List.mem_append.mp hp with q | q
      · simp only [List.mem_cons, List.not_mem_nil, or_false] at q
        rcases q with rfl | rfl | rfl
        · exact dL
        · exact dD
        · exact dII
      · exact offI p q
    by_cases hlt : j < n
    · refine W.item j _ _ _ hlt hst' fun u h₁ tk₁ hP hst₁ hk₁ => ?_
      have F₁ := fr_but F' hI0 hCI hk₁
      have N₁ := news_but N' nI hk₁
      refine wpAny_assign_Name (wpAny_storeName_local hy F₁.ns (fun h₂ hn₂ hs₂ => ?_) hp)
      have F₂ := F₁.set hn₂ hs₂
      have N₂ := N₁.set hs₂
      have hst₂ : St (j + 1) h₂ := W.frame _ _ _ hst₁ fun b hb o e => by
        refine (hs₂.2 b ?_).trans e
        rintro rfl
        rcases hfp _ hb with e1 | ⟨o', ho'⟩ | ⟨o', ho'⟩
        · exact hCI e1
        · exact absurd (Nat.lt_of_lt_of_le (Heap.lt_size ho') F.above) (Nat.lt_irrefl _)
        · exact (N' _ (List.mem_append_right _ (hk' _ (hk2 _ ho')))).2.1 rfl
      obtain ⟨oJ, hoJ⟩ := hob _ _ hst₂
      have N₃ : News h₀ cenv.locals h₂ (W3 L oL D ys nD I oI ++ [(s₁.heap.objs.size, oJ)] ++ nx') := fun p hp => by
        rcases List.mem_append.mp hp with q | q
        · rcases List.mem_append.mp q with q | q
          · exact N₂ p (List.mem_append_left _ q)
          · rw [List.mem_singleton.mp q]; exact ⟨hoJ, Ne.symm hCI, hI0⟩
        · exact N₂ p (List.mem_append_right _ q)
      have off₃ : Off nx' (W3 L oL D ys nD I oI ++ [(s₁.heap.objs.size, oJ)]) := fun p hp q hq => by
        rcases List.mem_append.mp hq with z | z
        · exact off' p hp q z
        · rw [List.mem_singleton.mp z]; exact offI p hp
      refine wpAny_mono (turn j u ys nx' _ nD _ oJ h₂ _ hlt hP hJ' hk' F₂ (by rw [if_neg hxy]; exact hm') (if_pos rfl) N₃ off₃) (fun yv s₄ h₄ => ?_) NoE_any
      obtain ⟨h₅, tk₅, mc₅, nx₅, rfl, F₅, hm₅, N₅, off₅, hk₅, hJ₅⟩ := h₄
      have len := hJs _ _ _ hJ'
      have nD5 := N₅ (D, listOf (List.toArray ys) nD) (by simp)
      refine wpAny_list_append_plain (hsz := by rw [List.size_toArray, sizeLine_eq]; omega) ⟨nD, nD5.1⟩ fun h₆ hl₆ hs₆ => ?_
      obtain ⟨n6, ho6⟩ := hl₆
      have up : ∀ b o, b ≠ D → h₅.get? b = some o → h₆.get? b = some o := fun b o hb e => (hs₆.2 b hb).trans e
      refine ⟨n + 1 - (j + 1), by omega, h₆, tk₅, mc₅, ys ++ [yv], n6, nx₅, j + 1, rfl, ?_, ?_, hm₅, ?_, ?_, ?_, hk₅, hJ₅, hlt, rfl⟩
      · refine W.frame _ _ _ hst₂ fun b hb o e => ?_
        rcases hfp b hb with rfl | ⟨o', ho'⟩ | ⟨o', ho'⟩
        · rw [hoJ] at e; cases e
          exact up _ _ (Ne.symm (nI (D, listOf (List.toArray ys) nD) (.tail _ (.head _)))) (N₅ (s₁.heap.objs.size, oJ) (by simp)).1
        · have := F₂.keep b o' ho'; rw [e] at this; cases this
          exact up _ _ (by rintro rfl; rw [nD5.2.2] at ho'; cases ho') (F₅.keep _ _ ho')
        · have := (N₃ _ (List.mem_append_right _ (hk' _ (hk2 _ ho')))).1; rw [e] at this; cases this
          exact up _ _ (off₅ _ (hk₅ _ (hk2 _ ho')) (D, listOf (List.toArray ys) nD) (by simp)) (N₅ _ (List.mem_append_right _ (hk₅ _ (hk2 _ ho')))).1
      · exact ⟨F₅.ns.sameBut hs₆ (Ne.symm nD5.2.1), fun b o e => up b o (by rintro rfl; rw [nD5.2.2] at e; cases e) (F₅.keep b o e), F₅.above⟩
      · intro p hp
        rcases List.mem_append.mp hp with q | q
        · simp only [List.mem_cons, List.not_mem_nil, or_false] at q
          rcases q with rfl | rfl | rfl
          · have z := N₅ (L, oL) (by simp)
            exact ⟨up _ _ hLD z.1, z.2⟩
          · exact ⟨by simpa using ho6, nD5.2⟩
          · have z := N₅ (I, oI) (by simp)
            exact ⟨up _ _ (Ne.symm hDI) z.1, z.2⟩
        · have z := N₅ p (List.mem_append_right _ q)
          exact ⟨up _ _ (off₅ p q (D, listOf (List.toArray ys) nD) (by simp)) z.1, z.2⟩
      · intro p hp q hq
        simp only [List.mem_cons, List.not_mem_nil, or_false] at hq
        rcases hq with rfl | rfl | rfl
        · exact off₅ p hp (L, oL) (by simp)
        · exact off₅ p hp (D, listOf (List.toArray ys) nD) (by simp)
        · exact off₅ p hp (I, oI) (by simp)
      · exact fun p hp => off₅ p hp (s₁.heap.objs.size, oJ) (by simp)
    · have hjn : j = n := by omega
      subst hjn
      refine W.done _ _ _ hst' fun h₁ tk₁ hk₁ => ?_
      exact done ys nx' nD mc h₁ tk₁ hJ' hk' (fr_but F' hI0 hCI hk₁) hm' (news_but N' nI hk₁) off'
  exact start_two1 (loop _ rfl) (W.self 0 _ _ _ hst (loop _ rfl))
end
/- NG3 -/
def TwoEnd (h₀ : Heap) (C L : Addr) (oL : Obj) (D I : Addr) (oI : Obj) (keep : List (Addr × Obj)) (J : List Value → List (Addr × Obj) → Prop) (s₁ s' : Shared) : Prop :=
  ∃ h' tk mc ys nD nx, s' = { s₁ with heap := h', toks := tk } ∧ Fr h₀ C h' mc ∧ News h₀ C h' (W3 L oL D ys nD I oI ++ nx) ∧ Off nx (W3 L oL D ys nD I oI) ∧ (∀ p ∈ keep, p ∈ nx) ∧ J ys nx
def okOf (P : Shared → Prop) (r : Result) (s : Shared) : Prop := match r with | .ok _ => P s | .error _ => False
def TwoTurn (w : World) (A : Around) (h₀ : Heap) (env : Env) (scope : Scope) (cl : List (Str × Addr)) (x y : Str) (px py : Pos) (iter iter2 : Expr) (pos : Pos) (elt : Expr) (keep : List (Addr × Obj)) (n : Nat) (P : Nat → Value → Prop) (J : Nat → List Value → List (Addr × Obj) → Prop) (s₁ : Shared) : Prop :=
  ∀ i v ys nx C mc oL D nD I oI h tk, i < n → P i v → J i ys nx → (∀ p ∈ keep, p ∈ nx) → Fr h₀ C h mc → mc x = some v →
    News h₀ C h (W3 env.locals oL D ys nD I oI ++ nx) → Off nx (W3 env.locals oL D ys nD I oI) → env.locals ≠ D → D ≠ I →
    wpAny (model PR w) A (eval iter2 (compEnvC scope cl C env)) (fun xv s' => wpAny (model PR w) A (pyIter xv) (fun it2 s'' =>
      codeAny (model PR w) A (.compStart (two elt x y px py iter iter2 scope pos) 1 it2 (.ref D) (compEnvC scope cl C env)) (okOf (TwoEnd h₀ C env.locals oL D I oI keep (J (i + 1)) s₁)) s'') NoE s') NoE { s₁ with heap := h, toks := tk }
def TwoP (w : World) (A : Around) (h₀ : Heap) (env : Env) (scope : Scope) (cl : List (Str × Addr)) (x y : Str) (px py : Pos) (iter iter2 : Expr) (pos : Pos) (elt : Expr) (g : Addr → (Str → Option Value) → (Str → Option Value)) (R : Addr → Shared → Prop) (it : Value) (s₂ : Shared) : Prop :=
  ∃ (s₁ : Shared) (keep : List (Addr × Obj)) (n : Nat) (P : Nat → Value → Prop) (m : Str → Option Value) (nx : List (Addr × Obj)) (J : Nat → List Value → List (Addr × Obj) → Prop),
    IterOn w A h₀ keep it n P s₁ s₂ ∧ Fr h₀ env.locals s₁.heap m ∧ News h₀ env.locals s₁.heap nx ∧ (∀ p ∈ keep, p ∈ nx) ∧ J 0 [] nx ∧ TwoTurn w A h₀ env scope cl x y px py iter iter2 pos elt keep n P J s₁ ∧
    (∀ ys nx D nD h tk, J n ys nx → (∀ p ∈ keep, p ∈ nx) → Fr h₀ env.locals h (g D m) → News h₀ env.locals h ((D, listOf (List.toArray ys) nD) :: nx) → (∀ p ∈ nx, p.1 ≠ D) → R D { s₁ with heap := h, toks := tk })
theorem two_core {w : World} {A : Around} {h₀ : Heap} {env : Env} {scope : Scope} {cl : List (Str × Addr)} {x y : Str} {px py pos : Pos} {elt iter iter2 : Expr} {s₂ : Shared} {it : Value} {RR : Value → Addr → Result → Shared → Prop}
    {s₁ : Shared} {keep : List (Addr × Obj)} {n : Nat} {P : Nat → Value → Prop} {m : Str → Option Value} {nx : List (Addr × Obj)} {J : Nat → List Value → List (Addr × Obj) → Prop}
    (hcell : ∀ y ∈ scope.names, y.2 ≠ .cell) (hkind : scope.kind = .function) (hx : scope.names.lookup x = some .local) (hs : ∀ env x', foldedSetIterable iter2 env x' = pure x')
    (hit : IterOn w A h₀ keep it n P s₁ s₂) (F : Fr h₀ env.locals s₁.heap m) (N : News h₀ env.locals s₁.heap nx) (hkeep : ∀ p ∈ keep, p ∈ nx) (hJ : J 0 [] nx) (turn : TwoTurn w A h₀ env scope cl x y px py iter iter2 pos elt keep n P J s₁)
    (done : ∀ ys nx C mc D nD h tk, J n ys nx → (∀ p ∈ keep, p ∈ nx) → Fr h₀ env.locals h m → News h₀ env.locals h ((D, listOf (List.toArray ys) nD) :: nx) → (∀ p ∈ nx, p.1 ≠ D) → h.Ns C mc → C ≠ env.locals → C ≠ D → (∀ p ∈ nx, p.1 ≠ C) → h₀.get? C = none →
      RR (.ref D) C (.ok .next) { s₁ with heap := h, toks := tk }) :
    wpAny (model PR w) A (newList []) (fun acc s₃ => wpAny (model PR w) A (newFunctionEnv scope env.globals cl [] env.qual none .none (some env)) (fun cenv s₄ =>
      codeAny (model PR w) A (.compStart (two elt x y px py iter iter2 scope pos) 0 it acc { cenv with scope := relabel scope env }) (RR acc cenv.locals) s₄) NoE s₃) NoE s₂ := by
  obtain ⟨I, oI, fp, St, rfl, W, hst, rfl, rfl, hfr, hob, hfp⟩ := hit
  refine wpAny_newObj_type (wpAny_newFunctionEnv hcell (by intro y hy; simp at hy) (fun h₁ hns₁ hsb₁ => ?_) hkind)
  dsimp only at hns₁ hsb₁ ⊢
  generalize hI : s₁.heap.objs.size = I at *
  generalize hH1 : s₁.heap.push oI = H1 at *
  have hD : H1.objs.size = I + 1 := by rw [← hH1, Heap.size_push, hI]
  generalize hH2 : H1.push { cls := .type "list", dict := none, data := .seq ([] : List Value).toArray } = H2 at *
  have hC : H2.objs.size = I + 2 := by rw [← hH2, Heap.size_push, hD]
  generalize hDe : H1.objs.size = D at *
  generalize hCe : H2.objs.size = C at *
  replace hD : @Eq Nat D (I + 1) := hD
  replace hC : @Eq Nat C (I + 2) := hC
  have hL : @LT.lt Nat _ env.locals I := hI ▸ F.ns.lt
  have hI0 : h₀.get? I = none := hI ▸ size_none F
  have h0lt : ∀ b o, h₀.get? b = some o → @LT.lt Nat _ b I := fun b o e => hI ▸ Heap.lt_size (F.keep b o e)
  have nlt : ∀ p ∈ nx, @LT.lt Nat _ p.1 I := fun p hp => hI ▸ Heap.lt_size (N p hp).1
  have none_of : ∀ b, @LE.le Nat _ I b → h₀.get? b = none := fun b hb => by
    cases q : h₀.get? b with
    | none => rfl
    | some o => exact absurd (Nat.lt_of_lt_of_le (h0lt b o q) hb) (Nat.lt_irrefl _)
  have hD0 : h₀.get? D = none := none_of D (by omega)
  have hC0 : h₀.get? C = none := none_of C (by omega)
  have old : ∀ b o, @LT.lt Nat _ b I → s₁.heap.get? b = some o → h₁.get? b = some o := fun b o hb e => hsb₁.extBut b o (neN (by omega)) (Heap.get?_push_of_some _ (hH2 ▸ Heap.get?_push_of_some _ (hH1 ▸ Heap.get?_push_of_some _ e)))
  have hDobj : h₁.PlainList D #[] := ⟨_, hsb₁.extBut _ _ (neN (by omega)) (Heap.get?_push_of_some _ (by rw [← hH2, ← hDe]; exact Heap.get?_push_size _ rfl))⟩
  have hst₁ : St 0 h₁ := W.frame _ _ _ hst fun b _ o e => hsb₁.extBut b o (neN (by have : @LT.lt Nat _ b D := hDe ▸ Heap.lt_size e; omega)) (Heap.get?_push_of_some _ (hH2 ▸ Heap.get?_push_of_some _ e))
  have F₁ : Fr h₀ env.locals h₁ m := ⟨F.ns.at' fun o e => old _ o hL e, fun b o e => old b o (h0lt b o e) (F.keep b o e), F.above⟩
  have N₁ : News h₀ env.locals h₁ nx := fun p hp => ⟨old _ _ (nlt p hp) (N p hp).1, (N p hp).2⟩
  have above : h₀.objs.size ≤ C := Nat.le_trans F.above (by omega)
  have loop : ∀ s₃ : Shared, s₃ = { s₁ with heap := h₁, toks := s₁.toks + ([] : List (Str × Value)).length } →
      codeAny (model PR w) A (.compLoop (two elt x y px py iter iter2 scope pos) 0 (.ref I) (.ref D) (compEnvC scope cl C env)) (RR (.ref D) C) s₃ := by
    rintro s₃ rfl
    refine loop_two0 (fun k s' => ∃ h' tk mc ys nx' i, s' = { s₁ with heap := h', toks := tk } ∧ St i h' ∧ h'.PlainList D (List.toArray ys) ∧ h'.Ns C mc ∧ Fr h₀ env.locals h' m ∧ News h₀ env.locals h' nx' ∧ (∀ p ∈ nx', p.1 ≠ I ∧ p.1 ≠ D ∧ p.1 ≠ C) ∧ (∀ p ∈ keep, p ∈ nx') ∧ J i ys nx' ∧ i ≤ n ∧ k = n + 1 - i) ?_ (n + 1)
      ⟨h₁, _, _, [], nx, 0, rfl, hst₁, hDobj, hns₁, F₁, N₁, (fun p hp => by have := nlt p hp; exact ⟨neN (by omega), neN (by omega), neN (by omega)⟩), hkeep, hJ, Nat.zero_le _, rfl⟩ (hs _)
    rintro k s' ⟨h', tk, mc, ys, nx', i, rfl, hst', hacc', hn', F', N', off, hk', hJ', hi, rfl⟩
    by_cases hlt : i < n
    · refine W.item i _ _ _ hlt hst' fun v h₂ tk₂ hP hst₂ hk₂ => ?_
      have hCI : C ∉ [I] := fun q => neN (a := C) (b := I) (by omega) (List.mem_singleton.mp q)
      have hDI : D ∉ [I] := fun q => neN (a := D) (b := I) (by omega) (List.mem_singleton.mp q)
      refine wpAny_assign_Name (wpAny_storeName_local (lookup_relabel_local hx) (hn'.at' fun o e => hk₂ _ o hCI e) (fun h₃ hn₃ hs₃ => ?_) (by simp [compEnvC, relabel, hkind]))
      have hn₃' : h₃.Ns C (fun y => if y = x then some v else mc y) := hn₃
      have hs₃' : Heap.SameBut C h₂ h₃ := hs₃
      obtain ⟨oL, esL, epL, hoL, hdL⟩ := F'.ns
      have up : ∀ b o, b ≠ I → b ≠ C → h'.get? b = some o → h₃.get? b = some o := fun b o h1 h2 e => (hs₃'.2 b h2).trans (hk₂ b o (by simp [h1]) e)
      have hst₃ : St (i + 1) h₃ := W.frame _ _ _ hst₂ fun b hb o e => by
        refine (hs₃'.2 b ?_).trans e
        rintro rfl
        rcases hfp b hb with e1 | ⟨o', ho'⟩ | ⟨o', ho'⟩
        · exact neN (by omega) e1
        · rw [hC0] at ho'; cases ho'
        · exact (off _ (hk' _ ho')).2.2 rfl
      obtain ⟨oJ, hoJ⟩ := hob _ _ hst₃
      obtain ⟨nD, hoD⟩ := hacc'
      have F₃ : Fr h₀ C h₃ (fun y => if y = x then some v else mc y) := ⟨hn₃', fun b o e => up b o (by rintro rfl; rw [hI0] at e; cases e) (by rintro rfl; rw [hC0] at e; cases e) (F'.keep b o e), above⟩
      have N₃ : News h₀ C h₃ (W3 env.locals oL D ys nD I oJ ++ nx') := fun p hp => by
        simp only [List.cons_append, List.nil_append, List.mem_cons] at hp
        rcases hp with rfl | rfl | rfl | hp
        · refine ⟨up _ _ (neN (by omega)) (neN (by omega)) hoL, neN (by show env.locals ≠ C; exact neN (by omega)), ?_⟩
          · cases q : h₀.get? env.locals with
            | none => rfl
            | some o => exact absurd (Nat.lt_of_lt_of_le (Heap.lt_size q) F.above) (Nat.lt_irrefl _)
        · exact ⟨up _ _ (neN (by show @Ne Nat D I; omega)) (neN (by show @Ne Nat D C; omega)) hoD, neN (by show @Ne Nat D C; omega), hD0⟩
        · exact ⟨hoJ, neN (by show @Ne Nat I C; omega), hI0⟩
        · exact ⟨up _ _ (off p hp).1 (off p hp).2.2 (N' p hp).1, (off p hp).2.2, (N' p hp).2.2⟩
      have off₃ : Off nx' (W3 env.locals oL D ys nD I oJ) := fun p hp q hq => by
        simp only [List.mem_cons, List.not_mem_nil, or_false] at hq
        rcases hq with rfl | rfl | rfl
        · exact (N' p hp).2.1
        · exact (off p hp).2.1
        · exact (off p hp).1
      refine wpAny_mono (turn i v ys nx' C _ oL D nD I oJ h₃ _ hlt hP hJ' hk' F₃ (if_pos rfl) N₃ off₃ (neN (by omega)) (neN (by omega))) (fun xv s₄ h₄ => wpAny_mono h₄ (fun it2 s₅ h₅ => codeAny_mono h₅ fun r s₆ h₆ => ?_) NoE_any) NoE_any
      cases r with
      | error e => exact h₆.elim
      | ok f =>
      obtain ⟨h₇, tk₇, mc₇, ys₇, nD₇, nx₇, rfl, F₇, N₇, off₇, hk₇, hJ₇⟩ := h₆
      have n1 := (N₇ (env.locals, oL) (by simp)).1
      have n2 := (N₇ (D, listOf (List.toArray ys₇) nD₇) (by simp)).1
      have n3 := (N₇ (I, oJ) (by simp)).1
      refine ⟨n + 1 - (i + 1), by omega, h₇, tk₇, mc₇, ys₇, nx₇, i + 1, rfl, ?_, ⟨nD₇, n2⟩, F₇.ns, ⟨⟨oL, esL, epL, n1, hdL⟩, F₇.keep, F.above⟩, ?_, ?_, hk₇, hJ₇, hlt, rfl⟩
      · refine W.frame _ _ _ hst₃ fun b hb o e => ?_
        rcases hfp b hb with rfl | ⟨o', ho'⟩ | ⟨o', ho'⟩
        · rw [hoJ] at e; cases e
          exact n3
        · have := F₃.keep b o' ho'; rw [e] at this; cases this
          exact F₇.keep _ _ ho'
        · have := (N₃ _ (List.mem_append_right _ (hk' _ ho'))).1; rw [e] at this; cases this
          exact (N₇ _ (List.mem_append_right _ (hk₇ _ ho'))).1
      · exact fun p hp => ⟨(N₇ p (List.mem_append_right _ hp)).1, off₇ p hp (env.locals, oL) (by simp), (N₇ p (List.mem_append_right _ hp)).2.2⟩
      · exact fun p hp => ⟨off₇ p hp (I, oJ) (by simp), off₇ p hp (D, listOf (List.toArray ys₇) nD₇) (by simp), (N₇ p (List.mem_append_right _ hp)).2.1⟩
    · have hin : i = n := by omega
      subst hin
      refine W.done _ _ _ hst' fun h₂ tk₂ hk₂ => ?_
      have hCI : C ∉ [I] := fun q => neN (a := C) (b := I) (by omega) (List.mem_singleton.mp q)
      have hDI : D ∉ [I] := fun q => neN (a := D) (b := I) (by omega) (List.mem_singleton.mp q)
      obtain ⟨nD, hoD⟩ := hacc'
      refine done ys nx' C mc D nD h₂ tk₂ hJ' hk' (fr_but F' hI0 (neN (by omega)) hk₂) ?_ (fun p hp => (off p hp).2.1) (hn'.at' fun o e => hk₂ _ o hCI e) (neN (by omega)) (neN (by omega)) (fun p hp => (off p hp).2.2) hC0
      intro p hp
      rcases List.mem_cons.mp hp with rfl | hp
      · exact ⟨hk₂ _ _ hDI hoD, neN (by show @Ne Nat D env.locals; omega), hD0⟩
      · exact news_but N' (fun p hp => (off p hp).1) hk₂ p hp
  exact codeAny_compStart_list (loop _ rfl) (W.self 0 _ _ _ hst₁ (loop _ rfl))
theorem two_assign {w : World} {A : Around} {s : Shared} {h₀ : Heap} {env : Env} {scope : Scope} {cl : List (Str × Addr)} {x y z : Str} {px py pz pos spos : Pos} {elt iter iter2 : Expr} {Q : Flow → Shared → Prop} {m : Str → Option Value} (_ : Fr h₀ env.locals s.heap m)
    (hsw : swapsWith (two elt x y px py iter iter2 scope pos) (some (.Name z pz)) spos.line env = pure true)
    (hclos : closureFor scope env = pure cl) (hcell : ∀ y ∈ scope.names, y.2 ≠ .cell) (hkind : scope.kind = .function)
    (hnames : ∀ y ∈ scope.names, y.2 = .local → scope.names.lookup y.1 = some .local) (hx : scope.names.lookup x = some .local)
    (hz : env.kindOf z = some .local) (hp : (env.scope.kind == .class || (env.scope.kind == .module && env.locals != env.globals)) = false)
    (h : wpAny (model PR w) A (eval iter env) (fun xv s₁ => wpAny (model PR w) A (pyIter xv) (fun it s₂ => TwoP w A h₀ env scope cl x y px py iter iter2 pos elt (fun D m u => if u = z then some (.ref D) else m u) (fun _ s' => Q .next s') it s₂) NoE s₁) NoE s)
    (hs : ∀ x, foldedSetIterable iter env x = pure x := by intro _; rfl) (hs2 : ∀ env x', foldedSetIterable iter2 env x' = pure x' := by intro _ _; rfl) :
    wpAny (model PR w) A (exec (.Assign [.Name z pz] (two elt x y px py iter iter2 scope pos) spos) env) Q NoE s := by
  rw [exec_Assign_Name_used _ _ _ _ hsw]
  refine wpAny_bind (wpAny_standAt (wpAny_bind ?_))
  show wpAny _ A (do let _ ← comprehension (two elt x y px py iter iter2 scope pos) scope env _ (newList []) false (eval iter env) (some (assign (.Name z pz) env))) _ _ s
  refine wpAny_bind (wpAny_mono (wpAny_comprehension_free (use := some (assign (.Name z pz) env)) (Q := fun _ s' => Q .next s') rfl hs hclos hkind hnames
    (wpAny_mono h (fun xv s₁ h₁ => wpAny_mono h₁ (fun it s₂ h₂ => ?_) fun _ _ e => e) fun _ _ e => e)) (fun _ s' hq => wpAny_pure (wpAny_pure hq)) fun _ _ e => e)
  obtain ⟨s₃, keep, n, P, m, nx, J, hit, F, N, hk, hJ, turn, done⟩ := h₂
  refine two_core (RR := fun acc C => compPost (model PR w) A NoE (some (assign (.Name z pz) env)) (fun _ s' => Q .next s') acc C) hcell hkind hx hs2 hit F N hk hJ turn ?_
  intro ys nx' C mc D nD h' tk hJ' hk' F' N' off hC hCL hCD hoff hC0
  show wpAny _ A (assign (.Name z pz) env (.ref D)) _ _ _
  refine wpAny_assign_Name (wpAny_storeName_local hz F'.ns (fun h₂ hn₂ hs₂ => ?_) hp)
  refine ⟨mc, hC.sameBut hs₂ hCL, fun h₃ hs₃ => ?_⟩
  refine done ys nx' D nD h₃ _ hJ' hk' (fr_same (F'.set hn₂ hs₂) hC0 hCL hs₃) (news_same (N'.set hs₂) (fun p hp => ?_) hs₃) off
  rcases List.mem_cons.mp hp with rfl | hp
  · exact Ne.symm hCD
  · exact hoff p hp
/- NF10 -/
def endsOf (p : Int × Int) : List Int := if p.1 = p.2 then [p.1] else [p.1, p.2]
def expand (rows : List (List Int)) (ends : List Int) : List (List Int) := rows.flatMap fun fs => ends.map fun e => fs ++ [e]
def rowsOf (ps : List (Int × Int)) : List (List Int) := ps.foldl (fun rows p => expand rows (endsOf p)) [[]]
def foundOf (kind : Str) (ps : List (Int × Int)) : List Int := (rowsOf ps).map (outF kind)
def lawCode (kind : Str) (ps : List (Int × Int)) : Int := if (foundOf kind ps).count ((foundOf kind ps).getD 0 0) = (foundOf kind ps).length then (foundOf kind ps).getD 0 0 else 3
theorem expand_len (rows : List (List Int)) (p : Int × Int) : (expand rows (endsOf p)).length ≤ 2 * rows.length := by
  unfold expand
  have he : (endsOf p).length ≤ 2 := by unfold endsOf; split <;> simp
  induction rows with
  | nil => simp
  | cons r rs ih => simp only [List.flatMap_cons, List.length_append, List.length_map, List.length_cons]; omega
theorem rowsOf_step (ps : List (Int × Int)) (i : Nat) (hi : i < ps.length) : rowsOf (ps.take (i + 1)) = expand (rowsOf (ps.take i)) (endsOf ps[i]) := by
  unfold rowsOf
  rw [List.take_add_one, List.getElem?_eq_getElem hi, List.foldl_append]
  rfl
theorem rowsOf_len (ps : List (Int × Int)) : ∀ i, i ≤ ps.length → (rowsOf (ps.take i)).length ≤ 2 ^ i
  | 0, _ => by simp [rowsOf]
  | i + 1, h => by
    rw [rowsOf_step ps i (by omega), Nat.pow_succ]
    have := rowsOf_len ps i (by omega)
    have := expand_len (rowsOf (ps.take i)) ps[i]
    omega
theorem rowsOf_each (ps : List (Int × Int)) : ∀ i, i ≤ ps.length → ∀ r ∈ rowsOf (ps.take i), r.length = i
  | 0, _, r, hr => by simp [rowsOf] at hr; simp [hr]
  | i + 1, h, r, hr => by
    rw [rowsOf_step ps i (by omega)] at hr
    unfold expand at hr
    obtain ⟨fs, hf, hr⟩ := List.mem_flatMap.mp hr
    obtain ⟨e, _, rfl⟩ := List.mem_map.mp hr
    rw [List.length_append, rowsOf_each ps i (by omega) fs hf]
    rfl
local macro_rules | `(tactic| walk_at "nsub") => `(tactic| (intro p9 hp9; (try simp only [List.cons_append, List.nil_append, List.append_assoc] at hp9 ⊢); simp only [List.mem_append, List.mem_cons, List.not_mem_nil, or_false] at hp9 ⊢; (repeat (first | (rcases hp9 with hp9 | hp9; (· simp only [hp9, true_or, or_true])) | (simp only [hp9, true_or, or_true])))))
theorem add_ledger {A : Around} {w : World} {s : Shared} {h₀ : Heap} {L : Addr} {m : Str → Option Value} {news : List (Addr × Obj)} {a b : Addr} {vs1 vs2 : List Value} {n1 n2 : Nat} {Q E : Value → Shared → Prop} (F : Fr h₀ L s.heap m) (N : News h₀ L s.heap news)
    (h1 : (a, listOf (List.toArray vs1) n1) ∈ news) (h2 : (b, listOf (List.toArray vs2) n2) ∈ news) (hsz : vs1.length + vs2.length ≤ 1000)
    (h : ∀ D h', Fr h₀ L h' m → News h₀ L h' ((D, listOf (List.toArray (vs1 ++ vs2)) 0) :: news) → (∀ p ∈ news, p.1 ≠ D) → Q (.ref D) { s with heap := h' }) : wpAny (model PR w) A (binaryOp .Add (.ref a) (.ref b)) Q E s := by
  refine add_arrays (hsz := by rw [List.size_toArray, List.size_toArray, sizeLine_eq]; omega) F N (isList_of (N _ h1).1) (isList_of (N _ h2).1) fun h' F' N' => ?_
  exact h _ _ F' N' fun p hp => Nat.ne_of_lt (Heap.lt_size (N p hp).1)
local macro_rules | `(tactic| walk_at "binaryOp Add ref ref") => `(tactic| (refine halt ?_))
theorem expand_take (rows : List (List Int)) (ends : List Int) (k : Nat) (hk : k < rows.length) : expand (rows.take (k + 1)) ends = expand (rows.take k) ends ++ ends.map fun e => rows[k] ++ [e] := by
  unfold expand
  rw [List.take_add_one, List.getElem?_eq_getElem hk, List.flatMap_append]
  simp
theorem endsOf_len (p : Int × Int) : (endsOf p).length ≤ 2 := by unfold endsOf; split <;> simp
theorem ints_one {p : Int × Int} {t : Tok} (h : p.1 = p.2) : Ints [.int p.1 t] (endsOf p) := by unfold endsOf; rw [if_pos h]; exact .cons (.int _ _) .nil
theorem ints_two {p : Int × Int} {t t' : Tok} (h : ¬ p.1 = p.2) : Ints [.int p.1 t, .int p.2 t'] (endsOf p) := by unfold endsOf; rw [if_neg h]; exact .cons (.int _ _) (.cons (.int _ _) .nil)
theorem rowsOf_pos (ps : List (Int × Int)) : 0 < (rowsOf ps).length := by
  unfold rowsOf
  suffices h : ∀ rows : List (List Int), 0 < rows.length → 0 < (ps.foldl (fun rows p => expand rows (endsOf p)) rows).length from h _ (by simp)
  induction ps with
  | nil => exact fun _ h => h
  | cons p r ih =>
    intro rows h
    refine ih _ ?_
    cases rows with
    | nil => simp at h
    | cons a b =>
      unfold expand endsOf
      dsimp only
      rw [List.flatMap_cons, List.length_append]
      split <;> simp <;> omega
local macro_rules | `(tactic| walk_at "subscriptTail Name Constant ref int") => `(tactic| (k_dflt ((refine' sub_listH (by assumption) (by assumption) (by omega) (by omega) (by assumption) ?_); intro v9 hv9; (first | (rename Dt _ _ (PyData.int _) => h8; cases h8) | skip))))
abbrev intsD (l : List Int) : PyData := .list (l.map .int)
set_option maxHeartbeats 4000000 in
theorem law_code_ct (w : World) (kind : Str) (ps : List (Int × Int)) (hlen : ps.length ≤ 6) (hne : ps ≠ []) : Pu w 160 4 [.str kind, pairsD ps] (.int (lawCode kind ps)) := by
  intro dp un gd fr s vs Q E G hpre hd hu hret
  walk_at "ct_open"
  rename DtA _ _ _ => hA
  rename _ = some (listOf _ _) => hobj
  have hvl := hA.len
  rw [List.length_map] at hvl
  rename List Value => pv
  ( (have X9 := Gd.k (by assumption)); (obtain ⟨_, _, _, _, _, T9⟩ := Gd.t (by assumption)); (refine wpAny_call ?_); (refine' enterC (by assumption) X9 ?k6 ?k7 ?k8 ?k9 ?kB ?kD ?_ ?c2 ?c3 ?c4); (case k6 => k_is); (case k7 => k_is); (case k8 => omega); (case k9 => rfl); (case kB => exact rfl); (case kD => decide +kernel); (case c2 => exact rfl); (case c3 => exact rfl); (case c4 => exact rfl); intro L0 _ _ _ _ F0 _ Y; (dsimp only [List.map, List.zip, List.zipWith, List.reverse, List.reverseAux] at F0 ⊢); (try k_fold))
  obtain ⟨o1, o2, rfl, d1, d2⟩ := CellsAre.two Y
  clear Y
  replace d1 : _ = Data.cell none := d1
  replace d2 : _ = Data.cell (some (.str kind _)) := d2
  k_steps
  rename_i Re _ _ Rr _ hltR _ _ N9
  replace N9 : News _ _ _ [(Rr, listOf (List.toArray [Value.ref Re]) 0), (L0 + 1 + 1, o1), (L0 + 1, o2), (Re, listOf (List.toArray []) 0)] := News.sub N9 (by walk_at "nsub")
  refine for_list (by assumption) N9 (Fr.keep (by assumption) _ _ hobj) [] (.inl ⟨_, hobj⟩) (fun _ h => (nomatch h)) (fun i m nx => ∃ oe ve Rr rvs nR tl, nx = (Rr, listOf (List.toArray rvs) nR) :: (L0 + 1 + 1, oe) :: (L0 + 1, o2) :: tl ∧ oe.data = Data.cell ve ∧ @Ne Nat (L0 + 1 + 1) Rr ∧ (∀ p ∈ tl, p.1 ≠ Rr) ∧ (∀ p ∈ tl, p.1 ≠ L0 + 1 + 1) ∧ InA tl rvs ((rowsOf (ps.take i)).map intsD) ∧ Has m "rows" (.ref Rr))
    ⟨o1, none, Rr, _, _, _, rfl, d1, Nat.ne_of_lt hltR.2.1, by k_all, by k_all, .cons (.list (.head _) .nil) .nil, rfl⟩ ?turn ?done
  case turn =>
    rintro i v m nx I oI h tk hv ⟨oe, ve, Rr, rvs, nR, tl, rfl, hoe, hlt, hap, hap2, hI, hro⟩ off hkp F N
    have hi : i < ps.length := by
      have := (List.getElem?_eq_some_iff.mp hv).1
      omega
    have hx : (ps.map fun p => prD p.1 p.2)[i]? = some (prD ps[i].1 ps[i].2) := by simp [hi]
    have hd9 := hA.at hv hx
    walk_at "ct_open"
    replace F := canon_fr _ F (psC hro psN)
    have hIR : @Ne Nat Rr I := off _ (.head _)
    have hIE : @Ne Nat (L0 + 1 + 1) I := off _ (.tail _ (.head _))
    have hIE1 : @Ne Nat (L0 + 1) I := off _ (.tail _ (.tail _ (.head _)))
    have hrl : (rowsOf (ps.take i)).length ≤ 64 := Nat.le_trans (rowsOf_len ps i (by omega)) (by
      have : i ≤ 6 := by omega
      exact Nat.le_trans (Nat.pow_le_pow_right (by omega) this) (by decide))
    have hrv := hI.len
    rw [List.length_map] at hrv
    k_steps
    all_goals rename_i Ee _ hltE hh on F9 N9 dE
    all_goals obtain ⟨evs, ne, N9, hEI⟩ : ∃ evs ne, News s.heap L0 hh ((Ee, listOf (List.toArray evs) ne) :: (I, oI) :: (Rr, listOf (List.toArray rvs) nR) :: (L0 + 1 + 1, on) :: (L0 + 1, o2) :: tl) ∧ Ints evs (endsOf ps[i]) := (by first | exact ⟨_, _, N9, ints_one (by assumption)⟩ | exact ⟨_, _, N9, ints_two (by assumption)⟩)
    all_goals (
      refine iter_list (h₀ := s.heap) (keep := [(Rr, listOf (List.toArray rvs) nR)]) rfl (N9 (Rr, listOf (List.toArray rvs) nR) (by k_mem)).1 (.inr ⟨_, .head _⟩) ?_
      intro it s₂ hit
      refine ⟨_, _, _, _, _, _, fun k ys nx => ∃ tl2, nx = (Ee, listOf (List.toArray evs) ne) :: (I, oI) :: (Rr, listOf (List.toArray rvs) nR) :: (L0 + 1 + 1, on) :: (L0 + 1, o2) :: (tl ++ tl2) ∧ InA tl2 ys ((expand ((rowsOf (ps.take i)).take k) (endsOf ps[i])).map intsD) ∧ (∀ p ∈ tl2, p.1 ≠ Rr) ∧ (∀ p ∈ tl2, p.1 ≠ L0 + 1 + 1) ∧ (∀ p ∈ tl2, p.1 ≠ I), hit, F9, N9, (by walk_at "nsub"), ⟨[], by rw [List.append_nil], .nil, (fun _ h => (nomatch h)), (fun _ h => (nomatch h)), (fun _ h => (nomatch h))⟩, ?tt, ?dd⟩
      case tt =>
        rintro k v ys nx C mc oL D nD I3 oI3 h tk hk hv ⟨tl2, rfl, hI2, b1, b2, b3⟩ hkp F hm N off hLD hDI
        have hk' : k < (rowsOf (ps.take i)).length := by omega
        have hrow := hI.at hv (d := intsD (rowsOf (ps.take i))[k]) (by simp [hk'])
        obtain ⟨fa, fvs, fn, rfl, hfm, hfI⟩ : ∃ fa fvs fn, v = .ref fa ∧ (fa, listOf (List.toArray fvs) fn) ∈ tl ∧ InA tl fvs ((rowsOf (ps.take i))[k].map .int) := (by cases hrow with | list a b => exact ⟨_, _, _, rfl, a, b⟩)
        replace F := canon_fr _ F (psC hm psN)
        have N0 := N
        simp only [List.cons_append, List.nil_append] at N
        k_steps
        (all_goals first | (show Addr; exact (0 : Nat)) | (show Str; exact Str.ofString "") | (show Value; exact Value.none) | (show List (Str × Addr); exact []) | skip)
        have hel := hEI.len
        rw [List.length_map] at hel
        have hel2 := endsOf_len ps[i]
        refine iter_list (h₀ := s.heap) (keep := [(Ee, listOf (List.toArray evs) ne)]) rfl (N (Ee, listOf (List.toArray evs) ne) (by k_mem)).1 (.inr ⟨_, .head _⟩) ?_
        intro it2 s₃ hit2
        refine inner_core (keep := [(Ee, listOf (List.toArray evs) ne), (Rr, listOf (List.toArray rvs) nR)]) (J := fun j ys nx => ∃ tl2, nx = (Ee, listOf (List.toArray evs) ne) :: (I, oI) :: (Rr, listOf (List.toArray rvs) nR) :: (L0 + 1 + 1, on) :: (L0 + 1, o2) :: (tl ++ tl2) ∧ InA tl2 ys ((expand ((rowsOf (ps.take i)).take k) (endsOf ps[i]) ++ ((endsOf ps[i]).take j).map (fun e => (rowsOf (ps.take i))[k] ++ [e])).map intsD) ∧ (∀ p ∈ tl2, p.1 ≠ Rr) ∧ (∀ p ∈ tl2, p.1 ≠ L0 + 1 + 1) ∧ (∀ p ∈ tl2, p.1 ≠ I))
          rfl (by rfl) (by rfl) (by decide) hit2 F (by rfl) N0 off hLD hDI (by walk_at "nsub") (by walk_at "nsub") ⟨tl2, rfl, by simpa using hI2, b1, b2, b3⟩ ?js ?it ?id
        case js =>
          rintro j ys nx ⟨tl2, -, hI2, -⟩
          have := hI2.len
          have h2 := expand_len ((rowsOf (ps.take i)).take k) ps[i]
          rw [List.length_take] at h2
          rw [this, List.length_map, List.length_append, List.length_map, List.length_take]
          omega
        case it =>
          rintro j u ys nx mc nD I4 oI4 h tk hj hu ⟨tl2, rfl, hI2, b1, b2, b3⟩ hkp2 F hm hm2 N off2
          have hej : j < (endsOf ps[i]).length := by omega
          obtain ⟨ut, rfl⟩ : ∃ t, u = .int (endsOf ps[i])[j] t := (by
            have := hEI.at hu (d := .int (endsOf ps[i])[j]) (by simp [hej])
            cases this; exact ⟨_, rfl⟩)
          replace F := canon_fr _ F (psC hm (psC hm2 psN))
          simp only [List.cons_append, List.nil_append] at N
          k_steps
          (all_goals first | (show Addr; exact (0 : Nat)) | (show Str; exact Str.ofString "") | (show Value; exact Value.none) | (show List (Str × Addr); exact []) | skip)
          unfold Halt
          have hfl := hfI.len
          rw [List.length_map, rowsOf_each ps i (by omega) _ (List.getElem_mem hk')] at hfl
          refine add_ledger (vs2 := [.int (endsOf ps[i])[j] ut]) (by assumption) (by assumption) (a := fa) (vs1 := fvs) (n1 := fn) (by simp only [List.mem_cons, List.mem_append, hfm, or_true, true_or]) (.head _) (by simp only [List.length_cons, List.length_nil]; omega) ?_
          intro D2 h2 F2 N2 ap2
          refine ⟨h2, _, _, ((Ee, listOf (List.toArray evs) ne) :: (I, oI) :: (Rr, listOf (List.toArray rvs) nR) :: (L0 + 1 + 1, on) :: (L0 + 1, o2) :: (tl ++ tl2)) ++ [(D2, listOf (List.toArray (fvs ++ [.int (endsOf ps[i])[j] ut])) 0)], rfl, F2, by rfl, News.sub N2 (by walk_at "nsub"), ?_, fun p hp => List.mem_append_left _ (hkp2 p hp), tl2 ++ [(D2, listOf (List.toArray (fvs ++ [.int (endsOf ps[i])[j] ut])) 0)], by simp only [List.cons_append, List.append_assoc], ?_, ?_, ?_, ?_⟩
          · intro p hp q hq
            rcases List.mem_append.mp hp with z | z
            · exact off2 p z q hq
            · rw [List.mem_singleton.mp z]
              refine Ne.symm (ap2 q ?_)
              revert hq
              revert q
              walk_at "nsub"
          · rw [take_snoc _ hej, ← List.append_assoc, List.map_append]
            refine inA_snoc hI2 (.list (.head _) ?_)
            rw [List.map_append]
            exact DtA.snoc (DtA.mono (fun _ _ q => q.elim) (ints_from (ints_of hfI))) (.int _ _)
          · exact List.forall_mem_append.mpr ⟨b1, List.forall_mem_cons.mpr ⟨Ne.symm (ap2 (Rr, listOf (List.toArray rvs) nR) (by k_mem)), fun _ h => (nomatch h)⟩⟩
          · exact List.forall_mem_append.mpr ⟨b2, List.forall_mem_cons.mpr ⟨Ne.symm (ap2 (L0 + 1 + 1, on) (by k_mem)), fun _ h => (nomatch h)⟩⟩
          · exact List.forall_mem_append.mpr ⟨b3, List.forall_mem_cons.mpr ⟨Ne.symm (ap2 (I, oI) (by k_mem)), fun _ h => (nomatch h)⟩⟩
        case id =>
          rintro ys nx nD mc h tk ⟨tl2, rfl, hI2, b1, b2, b3⟩ hkp2 F hm N off2
          refine ⟨h, tk, mc, ys, nD, _, rfl, F, N, off2, fun p hp => hkp2 p (.tail _ hp), tl2, rfl, ?_, b1, b2, b3⟩
          rw [expand_take _ _ _ hk']
          rw [hel, List.take_length] at hI2
          exact hI2
      case dd =>
        rintro ys nx D nD h tk ⟨tl2, rfl, hI2, b1, b2, b3⟩ hkp F N off
        k_steps
        rw [hrv, List.take_length, ← rowsOf_step ps i hi] at hI2
        have hDI : D ≠ I := Ne.symm (off (I, oI) (by k_mem))
        refine ⟨_, _, _, (D, listOf (List.toArray ys) nD) :: (L0 + 1 + 1, on) :: (L0 + 1, o2) :: tl2, rfl, by assumption, News.sub N (by walk_at "nsub"), ?_, (fun _ h => (nomatch h)), on, _, D, ys, nD, tl2, rfl, dE, off (L0 + 1 + 1, on) (by k_mem), fun p hp => off p (by simp only [List.mem_cons, List.mem_append, hp, or_true]), b2, hI2, by rfl⟩
        exact List.forall_mem_cons.mpr ⟨hDI, List.forall_mem_cons.mpr ⟨hIE, List.forall_mem_cons.mpr ⟨hIE1, b3⟩⟩⟩)
  case done =>
    rintro m nx h tk ⟨oe, ve, Rr, rvs, nR, tl, rfl, hoe, hlt, hap, hap2, hI, hro⟩ hkp F N
    replace F := canon_fr _ F (psC hro psN)
    rw [show ps.take pv.length = ps by rw [hvl]; exact List.take_length] at hI
    have hrl : (rowsOf ps).length ≤ 64 := (by
      have h1 := rowsOf_len ps ps.length (Nat.le_refl _)
      rw [List.take_length] at h1
      exact Nat.le_trans h1 (Nat.le_trans (Nat.pow_le_pow_right (by omega) hlen) (by decide)))
    have hrv := hI.len
    rw [List.length_map] at hrv
    have hre : ∀ r ∈ rowsOf ps, r.length = ps.length := (by
      have := rowsOf_each ps ps.length (Nat.le_refl _)
      rwa [List.take_length] at this)
    have hpp : 0 < ps.length := List.length_pos_iff.mpr hne
    k_steps
    refine comp_list (by assumption) (by assumption) (N (Rr, listOf (List.toArray rvs) nR) (.head _)).1 (i64 (by omega)) [(Rr, listOf (List.toArray rvs) nR)] (.inr ⟨_, .head _⟩) (by walk_at "nsub") (fun k ys nx => nx = (Rr, listOf (List.toArray rvs) nR) :: (L0 + 1 + 1, oe) :: (L0 + 1, o2) :: tl ∧ InA [] ys (((rowsOf ps).take k).map fun r => .int (outF kind r))) ⟨rfl, .nil⟩ ?turn2 ?done2
    case turn2 =>
      rintro k v ys nx C mc oL D nD I oI h tk hk hv ⟨rfl, hI2⟩ hlen' hkp2 F hm N off
      have hk' : k < (rowsOf ps).length := by omega
      have hrow := hI.at hv (d := intsD (rowsOf ps)[k]) (by simp [hk'])
      obtain ⟨fa, fvs, fn, rfl, hfm, hfI⟩ : ∃ fa fvs fn, v = .ref fa ∧ (fa, listOf (List.toArray fvs) fn) ∈ tl ∧ InA tl fvs ((rowsOf ps)[k].map .int) := (by cases hrow with | list a b => exact ⟨_, _, _, rfl, a, b⟩)
      replace F := canon_fr _ F (psC hm psN)
      simp only [List.cons_append, List.nil_append] at N
      k_steps
      (all_goals first | (show Addr; exact (0 : Nat)) | (show Str; exact Str.ofString "") | (show Value; exact Value.none) | (show List (Str × Addr); exact []) | skip)
      refine Pu.useI (law_outcome_ct w kind (rowsOf ps)[k] (by intro e; have := hre _ (List.getElem_mem hk'); rw [e] at this; simp at this; omega) (by rw [hre _ (List.getElem_mem hk')]; omega)) (by assumption) (by assumption) N (.cons (.str _ _) (.cons (.list (N (fa, listOf (List.toArray fvs) fn) (by simp only [List.mem_cons, hfm, or_true])).1 (DtA.mono (fun _ _ q => q.elim) (ints_from (ints_of hfI)))) .nil)) (by omega) (by omega) ?_
      intro t9 h9 tk9 F9 N9
      refine ⟨_, _, _, (Rr, listOf (List.toArray rvs) nR) :: (L0 + 1 + 1, oe) :: (L0 + 1, o2) :: tl, rfl, F9, N9, off, hkp2, rfl, ?_⟩
      rw [take_snoc _ hk']
      exact hI2.snoc (.int _ _)
    case done2 =>
      rintro ys nx D nD h tk ⟨rfl, hI2⟩ hlen' hkp2 F N off
      rw [hrv, List.take_length] at hI2
      have hI4 : Ints ys (foundOf kind ps) := (by unfold foundOf Ints; rw [List.map_map]; exact DtA.mono (fun _ _ q => (nomatch q)) hI2)
      have hI3 := ints_of hI4
      have hD9 := (N (D, listOf (List.toArray ys) nD) (.head _)).1
      have hR9 : RdA h ys ((foundOf kind ps).map .int) := DtA.mono (fun _ _ q => q.elim) hI4
      have hfl : (foundOf kind ps).length ≤ 64 := (by unfold foundOf; rw [List.length_map]; exact hrl)
      have hfp : 0 < (foundOf kind ps).length := (by unfold foundOf; rw [List.length_map]; exact rowsOf_pos ps)
      have hx0 : ((foundOf kind ps).map PyData.int)[(0 : Int).toNat]? = some (.int ((foundOf kind ps).getD 0 0)) := (by simp [List.getD_eq_getElem?_getD, hfp])
      k_steps
      all_goals (refine hret _ _ _ (Fr.keep (by assumption)) ⟨_, fresh_of N, dt_int ?_⟩; unfold lawCode; split <;> first | rfl | (exfalso; omega))
/- NF11 -/
local macro_rules | `(tactic| walk_at "exec For Name Subscript cons nil") => `(tactic| (k_dflt (refine for_ruleF (by assumption) ?_)))
local macro_rules | `(tactic| walk_at "call builtin:list.reverse") => `(tactic| (refine halt ?_))
abbrev ScrAt (h : Heap) (v : Value) (ns : List Int) : Prop := ∃ a xs, v = .ref a ∧ h.IsList a (List.toArray xs) ∧ IntsAre xs ns
abbrev IsRow (d : PyData) : Prop := ∃ ns : List Int, d = intsD ns ∧ RowOk ns
theorem ints_item {vs : List Value} {ns : List Int} {i : Nat} {v : Value} (h : IntsAre vs ns) (e : vs[i]? = some v) : ∃ c t, v = .int c t := by
  induction h generalizing i with
  | nil => simp at e
  | cons n t _ ih =>
    cases i with
    | zero => simp at e; exact ⟨n, t, e.symm⟩
    | succ i => exact ih (by simpa using e)
theorem row_add {cs : List Int} {y : Int} (h : ∀ x ∈ cs, 0 ≤ x ∧ x < 1024) : ∀ x ∈ cs ++ [y.fmod 1024], 0 ≤ x ∧ x < 1024 := by
  intro x hx
  rcases List.mem_append.mp hx with q | q
  · exact h x q
  · rw [List.mem_singleton.mp q, Int.fmod_eq_emod_of_nonneg _ (by omega)]; omega
theorem fd_nn {y : Int} (h : 0 ≤ y) : 0 ≤ y.fdiv 1024 := by rw [Int.fdiv_eq_ediv_of_nonneg _ (by omega)]; omega
set_option maxHeartbeats 1000000 in
theorem law_row_ct (w : World) (ns : List Int) (hl : ns.length ≤ 63) : Ct w 108 1 (fun h vs => ∃ v, vs = [v] ∧ ScrAt h v ns) (fun h h' v => ∃ d, IsRow d ∧ Out h h' v d) := by
  intro dp un gd fr s vs Q E G hpre hd hu hret
  obtain ⟨_, rfl, a, xs, rfl, hL, hI⟩ := hpre
  have hxl := hI.length
  ( (have X9 := Gd.k (by assumption)); (obtain ⟨_, _, _, _, _, T9⟩ := Gd.t (by assumption)); (refine wpAny_call ?_); (refine' enter (by assumption) X9 ?k6 ?k7 ?k8 ?k9 ?kB ?_ ?c2 ?c3 ?c4 ?c5); (case k6 => k_is); (case k7 => k_is); (case k8 => omega); (case k9 => rfl); (case kB => exact locs rfl); (case c2 => exact rfl); (case c3 => exact rfl); (case c4 => exact rfl); (case c5 => decide); intro L9 h9 tk9 fr9 F9 N9; (dsimp only [List.map, List.zip, List.zipWith, List.reverse, List.reverseAux] at F9 ⊢); (try k_fold))
  k_steps
  rename_i Rr _ _ _ D xv _ F9 N9 hI9 hC9 _ hlt
  have hxl2 : xv.length ≤ 40 := by rw [hI9.length, List.length_take]; omega
  refine for_list (vs := xv) (by assumption) N9 (N9 _ (.head _)).1 [(D, listOf (List.toArray xv) 0)] (.inr ⟨_, .head _⟩) (by walk_at "nsub") (fun i m nx => ∃ rs nr cs, nx = [(D, listOf (List.toArray xv) 0), (Rr, listOf (List.toArray rs) nr)] ∧ Ints rs cs ∧ cs.length ≤ 31 * i ∧ (∀ x ∈ cs, 0 ≤ x ∧ x < 1024) ∧ Has m "row" (.ref Rr)) ⟨[], _, [], rfl, .nil, by simp, (fun _ h => (nomatch h)), rfl⟩ ?turn ?done
  case turn =>
    rintro i v m nx I oI h tk hv ⟨rs, nr, cs, rfl, hR, hcl, hc, hro⟩ off hkp F N
    have hiv : i < xv.length := (List.getElem?_eq_some_iff.mp hv).1
    obtain ⟨c, ct, rfl⟩ : ∃ c t, v = .int c t := ints_item hI9 hv
    replace F := canon_fr _ F (psC hro psN)
    have hIR : @Ne Nat Rr I := off _ (.tail _ (.head _))
    have hID : @Ne Nat D I := off _ (.head _)
    have hrl := hR.len
    rw [List.length_map] at hrl
    k_steps
    all_goals (
      rename News _ _ _ _ => N9
      (try simp only [List.push_toArray] at N9)
      refine for_range0 (n := 30) (by assumption) N9 (by assumption) (by omega) (fun j m nx => ∃ rs nr cs y, nx = [(I, oI), (D, listOf (List.toArray xv) 0), (Rr, listOf (List.toArray rs) nr)] ∧ Ints rs cs ∧ cs.length ≤ 31 * i + 1 + j ∧ (∀ x ∈ cs, 0 ≤ x ∧ x < 1024) ∧ 0 ≤ y ∧ HasI m "number" y ∧ Has m "row" (.ref Rr)) ⟨_, _, cs ++ [Int.fmod _ 1024], _, rfl, ints_add hR, by simp only [List.length_append, List.length_singleton]; omega, row_add hc, ?nn, HasI.of rfl rfl, rfl⟩ ?turn2 ?done2
      case nn => exact fd_nn (by omega)
      case turn2 =>
        rintro j t m nx I2 oI2 h tk hj ⟨rs, nr, cs, y, rfl, hR, hcl, hc, hy, ⟨_, hnu⟩, hro⟩ off F N
        replace F := canon_fr _ F (psC hnu (psC hro psN))
        have hI2R : @Ne Nat Rr I2 := off _ (.tail _ (.tail _ (.head _)))
        have hI2I : @Ne Nat I I2 := off _ (.head _)
        have hI2D : @Ne Nat D I2 := off _ (.tail _ (.head _))
        have hrl := hR.len
        rw [List.length_map] at hrl
        k_steps
        all_goals (
          rename News _ _ _ _ => N8
          (try simp only [List.push_toArray] at N8)
          refine ⟨_, _, _, _, rfl, by assumption, N8, by k_all, (fun _ h => nomatch h), ?_⟩
          first
            | exact ⟨_, _, cs ++ [Int.fmod y 1024], y.fdiv 1024, rfl, ints_add hR, by simp only [List.length_append, List.length_singleton]; omega, row_add hc, fd_nn hy, HasI.of (by rfl) rfl, by rfl⟩
            | exact ⟨_, _, cs, y, rfl, hR, by omega, hc, hy, HasI.of (by rfl) rfl, by rfl⟩)
      case done2 =>
        rintro m nx h tk ⟨rs, nr, cs, y, rfl, hR, hcl, hc, hy, ⟨_, hnu⟩, hro⟩ F N
        replace F := canon_fr _ F (psC hnu (psC hro psN))
        k_steps
        exact ⟨_, _, _, [(D, listOf (List.toArray xv) 0), (Rr, listOf (List.toArray rs) nr)], rfl, by assumption, by assumption, by k_all, (by walk_at "nsub"), rs, nr, cs, rfl, hR, by omega, hc, by rfl⟩)
  case done =>
    rintro m nx h tk ⟨rs, nr, cs, rfl, hR, hcl, hc, hro⟩ hkp F N
    replace F := canon_fr _ F (psC hro psN)
    have hRI := ints_of hR
    k_steps
    unfold Halt
    have hcl2 : (cs.take 160).length ≤ 160 := by rw [List.length_take]; omega
    refine reverse_head_ints (by assumption) (by assumption) (by k_all) (by assumption) ?_ (i256 (by omega))
    intro h9 F9 N9 I9
    k_steps
    refine hret _ _ _ (Fr.keep (by assumption)) ⟨intsD (cs.take 160).reverse, ⟨_, rfl, by rw [List.length_reverse]; exact hcl2, fun x hx => hc x (List.mem_of_mem_take (List.mem_reverse.mp hx))⟩, _, fresh_of N9, .list (.head _) (DtA.mono (fun _ _ q => q.elim) (ints_from I9))⟩
/- NW1 -/
theorem halt2 {P : Prop} (h : Halt P) : P := h
structure LawOk (kind : Str) (n : Nat) (fs : List (List (Int × Int))) (hs : List Int) : Prop where
  kind : kind ∈ kindList
  n1 : 1 ≤ n
  n6 : n ≤ 6
  len : fs.length ≤ 4
  each : ∀ f ∈ fs, f.length = n
  drv : ∀ f ∈ fs, ∀ p ∈ f, DrvOk p
  hlen : hs.length = n
  two : Two hs
abbrev heldV (hs : List Int) (i : Nat) : Int := hs.getD i 0
abbrev toldP (kind : Str) (n : Nat) (fs : List (List (Int × Int))) (hs : List Int) : List (Int × Int) := resP kind fs (heldV hs) n
/-- the ledger of the law's frame: the row, the five cells, the rest -/
structure Led (h₀ : Heap) (L : Addr) (h : Heap) (n : Nat) (tl : List (Addr × Obj)) (R : Addr) (us : List Value) (nu : Nat) (ns : List Int) (o1 o2 o3 o4 o5 : Obj) : Prop where
  news : News h₀ L h ((R, listOf (List.toArray us) nu) :: (L + 1 + 1 + 1 + 1 + 1, o5) :: (L + 1 + 1 + 1 + 1, o4) :: (L + 1 + 1 + 1, o3) :: (L + 1 + 1, o2) :: (L + 1, o1) :: tl)
  iv : Ints us ns
  ok : RowOk ns
  d1 : o1.data = Data.cell (some (.ref R))
  d2 : ∃ t, o2.data = Data.cell (some (.int n t))
  d3 : ∃ c, o3.data = Data.cell c
  d4 : ∃ c, o4.data = Data.cell c
  d5 : ∃ c, o5.data = Data.cell c
  f1 : @Ne Nat R (L + 1)
  f2 : @Ne Nat R (L + 1 + 1)
  f3 : @Ne Nat R (L + 1 + 1 + 1)
  f4 : @Ne Nat R (L + 1 + 1 + 1 + 1)
  f5 : @Ne Nat R (L + 1 + 1 + 1 + 1 + 1)
  apR : ∀ p ∈ tl, p.1 ≠ R
  ap3 : ∀ p ∈ tl, p.1 ≠ L + 1 + 1 + 1
  ap4 : ∀ p ∈ tl, p.1 ≠ L + 1 + 1 + 1 + 1
  ap5 : ∀ p ∈ tl, p.1 ≠ L + 1 + 1 + 1 + 1 + 1
def InvF (h₀ : Heap) (L : Addr) (kind : Str) (n many : Nat) (h : Heap) : Prop :=
  ∃ m R us nu ns o1 o2 o3 o4 o5, Fr h₀ L h m ∧ Led h₀ L h n [] R us nu ns o1 o2 o3 o4 o5 ∧ HasS m "kind" kind ∧ HasI m "many" many
def InvA (h₀ : Heap) (L : Addr) (kind : Str) (n : Nat) (fs : List (List (Int × Int))) (hs : List Int) (h : Heap) : Prop :=
  ∃ m tl R us nu ns o1 o2 o3 o4 o5 vf vh vt, Fr h₀ L h m ∧ Led h₀ L h n tl R us nu ns o1 o2 o3 o4 o5 ∧ HasS m "kind" kind ∧ HasI m "many" fs.length ∧
    Has m "feeds" vf ∧ In tl vf (feedsD fs) ∧ Has m "held" vh ∧ In tl vh (intsD hs) ∧ Has m "told" vt ∧ In tl vt (pairsD (toldP kind n fs hs))
theorem sub_in {w : World} {A : Around} {s : Shared} {E : Value → Shared → Prop} {value slice : Expr} {h₀ : Heap} {L : Addr} {news tl : List (Addr × Obj)} {v : Value} {k : Int} {u : Tok} {ds : List PyData} {d : PyData} {Q : Value → Shared → Prop}
    (N : News h₀ L s.heap news) (I : In tl v (.list ds)) (g : ∀ p ∈ tl, p ∈ news) (h0 : 0 ≤ k) (hb : k < 2 ^ 62) (hk : ds[k.toNat]? = some d) (h : ∀ u, In tl u d → Q u s)
    (hs : ∀ a, subscripted slice false (.ref a) (.int k u) = operate [.ref a, .int k u] (getItem (.ref a) (.int k u)) := by intro _; with_unfolding_all rfl) :
    wpAny (model PR w) A (subscriptTail value slice v (.int k u)) Q E s := by
  cases I with
  | list hm hI =>
    obtain ⟨x, h1, h2⟩ := hI.get hk
    have hL := isList_of (N _ (g _ hm)).1
    exact tail_any hL.typeIs slot_list_getitem.lookup (wpAny_getItem_list hL h0 (by omega) (by simpa using h1) (h x h2)) (hs _)
theorem mod_nat {w : World} {A : Around} {s : Shared} {E : Value → Shared → Prop} {Q : Value → Shared → Prop} {x b : Int} {t u : Tok} (hb : 0 < b) (h : ∀ (k : Nat) t tk, (k : Int) < b → Q (.int (k : Int) t) { s with toks := tk }) : wpAny (model PR w) A (binaryOp .Mod (.int x t) (.int b u)) Q E s := by
  refine mod_int (by omega) ?_
  have e : Int.fmod x b = x % b := Int.fmod_eq_emod_of_nonneg _ (by omega)
  have h0 := Int.emod_nonneg x (show b ≠ 0 by omega)
  have h1 := Int.emod_lt_of_pos x hb
  rw [e, ← Int.toNat_of_nonneg h0]
  exact h _ _ _ (by omega)
theorem add1_nat {w : World} {A : Around} {s : Shared} {E : Value → Shared → Prop} {Q : Value → Shared → Prop} {k : Nat} {t u : Tok} (h : ∀ (n : Nat) t tk, n = 1 + k → Q (.int (n : Int) t) { s with toks := tk }) : wpAny (model PR w) A (binaryOp .Add (.int 1 t) (.int (k : Int) u)) Q E s := by
  refine add_int ?_
  have e : (1 : Int) + (k : Int) = ((1 + k : Nat) : Int) := by omega
  rw [e]
  exact h _ _ _ rfl
theorem sub_kind {w : World} {A : Around} {s : Shared} {E : Value → Shared → Prop} {value slice : Expr} {h₀ : Heap} {L : Addr} {news tl : List (Addr × Obj)} {v : Value} {k : Nat} {u : Tok} {Q : Value → Shared → Prop}
    (N : News h₀ L s.heap news) (I : In tl v (.list (kindList.map .str))) (g : ∀ p ∈ tl, p ∈ news) (hk : (k : Int) < 10) (h : ∀ kind t, kind ∈ kindList → Q (.str kind t) s)
    (hs : ∀ a, subscripted slice false (.ref a) (.int (k : Int) u) = operate [.ref a, .int (k : Int) u] (getItem (.ref a) (.int (k : Int) u)) := by intro _; with_unfolding_all rfl) : wpAny (model PR w) A (subscriptTail value slice v (.int (k : Int) u)) Q E s := by
  have hk' : k < kindList.length := by show k < 10; omega
  refine sub_in N I g (by omega) (by omega) (d := .str kindList[k]) (by simp [hk']) (fun v' h' => ?_) hs
  cases h'
  exact h _ _ (List.getElem_mem hk')
local macro_rules | `(tactic| walk_at "binaryOp Mod int int") => `(tactic| (k_dflt (refine mod_nat (by first | decide | omega) ?_); intro k9 _ _ hk9))
local macro_rules | `(tactic| walk_at "binaryOp Add int int") => `(tactic| (k_dflt (refine add1_nat ?_); intro n9 _ _ hn9))
theorem stop1 {m A x0 x1 x2 x3 x4 x5 x6 x7 Q E s} (h : Halt (wpAny m A (execs (Stmt.Assign x0 (Expr.ListComp x1 x2 x3 x4) x5 :: x6) x7) Q E s)) : wpAny m A (execs (Stmt.Assign x0 (Expr.ListComp x1 x2 x3 x4) x5 :: x6) x7) Q E s := h
section
 local macro_rules | `(tactic| walk_at "execs cons") => `(tactic| with_reducible refine stop1 ?_)
set_option maxHeartbeats 1000000 in
theorem law_p1 {w : World} {dp un : Nat} {gd : Option (List Code)} {fr : Option (List Env)} {s : Shared} {h₀ : Heap} {L : Addr} {oc : Value} {od : Option Addr} {osl : Array (Option Value)} {name qual : Str} {params : Arguments} {body : List Stmt} {scope : Scope} {dV kV doc pm cdv ct cx : Value} {an : Option Addr} {fx : Addr}
    {ns : List Int} {m : Str → Option Value} {o1 o2 o3 o4 o5 : Obj} {sv : Value} {Q : Flow → Shared → Prop}
    (ho : (Mine.hd.heap_39 w.params).lookup 172 = some ⟨oc, od, .func (fnOf name qual params body scope dV kV doc pm an cdv ct), osl⟩)
    (G : Gd w h₀) (hd : dp + 8 < recursionLimit) (hu : un + 8 * 8 + 64 < cLine) (F : Fr h₀ L s.heap m) (hsv : Has m "script" sv) (hs : ScrAt h₀ sv ns) (hl : ns.length ≤ 63)
    (N : News h₀ L s.heap [(L + 1 + 1 + 1 + 1 + 1, o5), (L + 1 + 1 + 1 + 1, o4), (L + 1 + 1 + 1, o3), (L + 1 + 1, o2), (L + 1, o1)])
    (d1 : o1.data = Data.cell none) (d2 : o2.data = Data.cell none) (d3 : o3.data = Data.cell none) (d4 : o4.data = Data.cell none) (d5 : o5.data = Data.cell none)
    (h : ∀ h' tk kind n many, kind ∈ kindList → 1 ≤ n → n ≤ 6 → many ≤ 4 → InvF h₀ L kind n many h' → wpAny (model PR w) (Ar dp un gd fr) (execs (body.drop 4) (envOfC qual scope L fx cx)) Q NoE { s with heap := h', toks := tk }) :
    wpAny (model PR w) (Ar dp un gd fr) (execs body (envOfC qual scope L fx cx)) Q NoE s := by
  have X9 := G.k
  have e := ho.symm.trans (by k_is : (Mine.hd.heap_39 w.params).lookup 172 = some ⟨_, _, .func (fnOf _ _ _ _ _ _ _ _ _ _ _ _), _⟩)
  cases e
  obtain ⟨_, _, _, _, _, T9⟩ := G.t
  replace F := canon_fr _ F (psC hsv psN)
  dsimp only [List.drop] at h
  obtain ⟨sa, sx, rfl, hsl, hsi⟩ := hs
  k_steps
  unfold Halt
  refine Ct.use (law_row_ct w ns hl) (by assumption) (by assumption) N ⟨_, rfl, sa, sx, rfl, hsl.at fun o q => Fr.keep (by assumption) _ _ q, hsi⟩ (by omega) (by omega) ?_
  rintro v9 h9 tk9 F9 N9 gr9 ⟨d9, ⟨ns1, rfl, ok1⟩, tl9, T9', I9⟩
  have N1 := news_out F N gr9 T9'
  have O1 := off_out N T9'
  cases I9 with
  | list hm hI =>
  rename_i R us nu
  have hI1 : Ints us ns1 := ints_from (ints_of hI)
  have f5 : @Ne Nat R (L + 1 + 1 + 1 + 1 + 1) := O1 (L + 1 + 1 + 1 + 1 + 1, o5) (by k_mem) _ hm
  have f4 : @Ne Nat R (L + 1 + 1 + 1 + 1) := O1 (L + 1 + 1 + 1 + 1, o4) (by k_mem) _ hm
  have f3 : @Ne Nat R (L + 1 + 1 + 1) := O1 (L + 1 + 1 + 1, o3) (by k_mem) _ hm
  have f2 : @Ne Nat R (L + 1 + 1) := O1 (L + 1 + 1, o2) (by k_mem) _ hm
  have f1 : @Ne Nat R (L + 1) := O1 (L + 1, o1) (by k_mem) _ hm
  replace N1 : News _ _ _ [(R, listOf (List.toArray us) nu), (L + 1 + 1 + 1 + 1 + 1, o5), (L + 1 + 1 + 1 + 1, o4), (L + 1 + 1 + 1, o3), (L + 1 + 1, o2), (L + 1, o1)] := News.sub N1 (by
    intro p hp
    rcases List.mem_cons.mp hp with rfl | hp
    · exact List.mem_append_right _ hm
    · exact List.mem_append_left _ hp)
  clear O1 N9 hI T9' N F gr9 hm
  k_steps
  unfold Halt
  rename News _ _ _ _ => N1
  rename In _ _ (PyData.list (List.map PyData.str kindList)) => I1
  refine sub_kind N1 I1 (by walk_at "nsub") (by assumption) ?_
  intro kind tkk hkm
  replace N1 := News.take 6 N1
  simp only [List.take_succ_cons, List.take_zero] at N1
  clear I1
  k_steps
  unfold Halt
  rename News _ _ _ _ => N1
  replace N1 := News.take 6 N1
  simp only [List.take_succ_cons, List.take_zero] at N1
  refine h _ _ kind _ _ hkm ?a ?b ?c ⟨_, R, _, _, _, _, _, _, _, _, by assumption, ⟨N1, by assumption, by assumption, by assumption, ⟨_, by assumption⟩, ⟨_, d3⟩, ⟨_, d4⟩, ⟨_, d5⟩, f1, f2, f3, f4, f5, (fun _ q => nomatch q), (fun _ q => nomatch q), (fun _ q => nomatch q), (fun _ q => nomatch q)⟩, HasS.of rfl rfl, HasI.of rfl rfl⟩
  all_goals omega
end
theorem again_NW1 {m A e Q E s} (h : wpAny m A (execs [] e) Q E s) : wpAny m A (execs [] e) Q E s := by first | (walk1; fail) | exact h
/- NW2 -/
theorem off_map {nx nx' w tl : List (Addr × Obj)} (h : Off nx w) (O : ∀ q ∈ w, ∀ p ∈ tl, p.1 ≠ q.1) (e : nx'.map Prod.fst = nx.map Prod.fst ++ tl.map Prod.fst) : Off nx' w := by
  intro p hp q hq
  have hm : p.1 ∈ nx'.map Prod.fst := List.mem_map_of_mem hp
  rw [e] at hm
  rcases List.mem_append.mp hm with z | z
  · obtain ⟨r, hr, er⟩ := List.mem_map.mp z
    rw [← er]; exact h r hr q hq
  · obtain ⟨r, hr, er⟩ := List.mem_map.mp z
    rw [← er]; exact O q hq r hr
abbrev FsOk (n : Nat) (fs : List (List (Int × Int))) : Prop := ∀ f ∈ fs, f.length = n ∧ ∀ p ∈ f, DrvOk p
theorem stop2 {m A x0 x1 x2 x3 x4 x5 Q E s} (h : Halt (wpAny m A (execs (Stmt.Assign x0 (Expr.List x1 x2) x3 :: x4) x5) Q E s)) : wpAny m A (execs (Stmt.Assign x0 (Expr.List x1 x2) x3 :: x4) x5) Q E s := h
section
 local macro_rules | `(tactic| walk_at "execs cons") => `(tactic| with_reducible refine stop2 ?_)
theorem held_ct (w : World) (hs : List Int) (n : Nat) (hl : hs.length = n) (hn : n ≤ 64) : ∀ i < n, Pu w 68 1 [intsD hs, .int (i : Nat)] (.int (heldV hs i)) := fun i hi =>
  held_list_ct w hs i (heldV hs i) (by omega) (by omega) (by simp [heldV, List.getD_eq_getElem?_getD, hl, hi])
set_option maxHeartbeats 4000000 in
theorem law_p2 {w : World} {dp un : Nat} {gd : Option (List Code)} {fr : Option (List Env)} {s : Shared} {h₀ : Heap} {L : Addr} {oc : Value} {od : Option Addr} {osl : Array (Option Value)} {name qual : Str} {params : Arguments} {body : List Stmt} {scope : Scope} {dV kV doc pm cdv ct cx : Value} {an : Option Addr} {fx : Addr}
    {kind : Str} {n many : Nat} {Q : Flow → Shared → Prop}
    (ho : (Mine.hd.heap_39 w.params).lookup 172 = some ⟨oc, od, .func (fnOf name qual params body scope dV kV doc pm an cdv ct), osl⟩)
    (G : Gd w h₀) (hd : dp + 8 < recursionLimit) (hu : un + 8 * 8 + 64 < cLine) (hkind : kind ∈ kindList) (hn1 : 1 ≤ n) (hn6 : n ≤ 6) (hm4 : many ≤ 4) (V : InvF h₀ L kind n many s.heap)
    (h : ∀ h' tk fs hs, LawOk kind n fs hs → InvA h₀ L kind n fs hs h' → wpAny (model PR w) (Ar dp un gd fr) (execs (body.drop 7) (envOfC qual scope L fx cx)) Q NoE { s with heap := h', toks := tk }) :
    wpAny (model PR w) (Ar dp un gd fr) (execs (body.drop 4) (envOfC qual scope L fx cx)) Q NoE s := by
  have X9 := G.k
  have e := ho.symm.trans (by k_is : (Mine.hd.heap_39 w.params).lookup 172 = some ⟨_, _, .func (fnOf _ _ _ _ _ _ _ _ _ _ _ _), _⟩)
  cases e
  obtain ⟨_, _, _, _, _, T9⟩ := G.t
  obtain ⟨m, R, us, nu, ns, o1, o2, o3, o4, o5, F, ⟨N, hI, hok, d1, ⟨t2, d2⟩, d3, d4, d5, f1, f2, f3, f4, f5, -, -, -, -⟩, ⟨tk1, hk1⟩, ⟨tk2, hk2⟩⟩ := V
  replace F := canon_fr _ F (psC hk1 (psC hk2 psN))
  dsimp only [List.drop] at h ⊢
  k_steps
  refine comp_range0 (by assumption) (by assumption) (by assumption) (i64 (by omega)) (fun i ys nx => ∃ us nu ns tl fs, nx = (R, listOf (List.toArray us) nu) :: (L + 1 + 1 + 1 + 1 + 1, o5) :: (L + 1 + 1 + 1 + 1, o4) :: (L + 1 + 1 + 1, o3) :: (L + 1 + 1, o2) :: (L + 1, o1) :: tl ∧ Ints us ns ∧ RowOk ns ∧ (∀ p ∈ tl, p.1 ≠ R) ∧ (∀ p ∈ tl, p.1 ≠ L + 1 + 1 + 1) ∧ (∀ p ∈ tl, p.1 ≠ L + 1 + 1 + 1 + 1) ∧ (∀ p ∈ tl, p.1 ≠ L + 1 + 1 + 1 + 1 + 1) ∧ FsOk n fs ∧ fs.length = i ∧ InA tl ys (fs.map pairsD))
    ⟨us, nu, ns, [], [], rfl, hI, hok, (fun _ q => nomatch q), (fun _ q => nomatch q), (fun _ q => nomatch q), (fun _ q => nomatch q), (fun _ q => nomatch q), rfl, .nil⟩ ?turn ?done
  case turn =>
    rintro i v ys nx C mc oL D nD I oI hh tkh hi ⟨_, rfl⟩ ⟨us, nu, ns, tl, fs, rfl, hI, hok, a1, a3, a4, a5, hfs, hfl, hA⟩ hlen' hk F hm N off
    replace N : News h₀ C hh (W3 L oL D ys nD I oI ++ _) := N
    replace off : Off _ (W3 L oL D ys nD I oI) := off
    change wpAny _ _ _ (EltEnd h₀ C (W3 L oL D ys nD I oI) _ _ _ _) _ _
    simp only [List.cons_append, List.nil_append] at N
    have r1 : @Ne Nat R L := off _ (.head _) (L, oL) (by k_mem)
    have r2 : @Ne Nat R D := off _ (.head _) (D, listOf (List.toArray ys) nD) (by k_mem)
    have r3 : @Ne Nat R I := off _ (.head _) (I, oI) (by k_mem)
    k_steps
    refine comp_range0 (by assumption) (by assumption) (by assumption) (i64 (by omega)) (fun j ys2 nx2 => ∃ us nu ns tl2 ps, nx2 = (L, oL) :: (D, listOf (List.toArray ys) nD) :: (I, oI) :: (R, listOf (List.toArray us) nu) :: (L + 1 + 1 + 1 + 1 + 1, o5) :: (L + 1 + 1 + 1 + 1, o4) :: (L + 1 + 1 + 1, o3) :: (L + 1 + 1, o2) :: (L + 1, o1) :: (tl ++ tl2) ∧ Ints us ns ∧ RowOk ns ∧ (∀ p ∈ tl2, p.1 ≠ R) ∧ (∀ p ∈ tl2, p.1 ≠ L + 1 + 1 + 1) ∧ (∀ p ∈ tl2, p.1 ≠ L + 1 + 1 + 1 + 1) ∧ (∀ p ∈ tl2, p.1 ≠ L + 1 + 1 + 1 + 1 + 1) ∧ Off tl2 (W3 L oL D ys nD I oI) ∧ (∀ p ∈ ps, DrvOk p) ∧ ps.length = j ∧ InA tl2 ys2 (ps.map prP))
      ⟨us, nu, ns, [], [], by rw [List.append_nil], hI, hok, (fun _ q => nomatch q), (fun _ q => nomatch q), (fun _ q => nomatch q), (fun _ q => nomatch q), (fun _ q => nomatch q), (fun _ q => nomatch q), rfl, .nil⟩ ?turn2 ?done2
    case turn2 =>
      rintro j v ys2 nx2 C2 mc2 oC D2 nD2 I2 oI2 hh2 tkh2 hj ⟨_, rfl⟩ ⟨us, nu, ns, tl2, ps, rfl, hI, hok, b1, b3, b4, b5, hoff2, hps, hpl, hB⟩ hlen2 hk2 F hm N off2
      replace N : News h₀ C2 hh2 (W3 C oC D2 ys2 nD2 I2 oI2 ++ _) := N
      replace off2 : Off _ (W3 C oC D2 ys2 nD2 I2 oI2) := off2
      change wpAny _ _ _ (EltEnd h₀ C2 (W3 C oC D2 ys2 nD2 I2 oI2) _ _ _ _) _ _
      simp only [List.cons_append, List.nil_append] at N
      have hR : (R, listOf (List.toArray us) nu) ∈ (L, oL) :: (D, listOf (List.toArray ys) nD) :: (I, oI) :: (R, listOf (List.toArray us) nu) :: (L + 1 + 1 + 1 + 1 + 1, o5) :: (L + 1 + 1 + 1 + 1, o4) :: (L + 1 + 1 + 1, o3) :: (L + 1 + 1, o2) :: (L + 1, o1) :: (tl ++ tl2) := by k_mem
      have q1 : @Ne Nat R C := off2 _ hR (C, oC) (.head _)
      have q2 : @Ne Nat R D2 := off2 _ hR (D2, listOf (List.toArray ys2) nD2) (.tail _ (.head _))
      have q3 : @Ne Nat R I2 := off2 _ hR (I2, oI2) (.tail _ (.tail _ (.head _)))
      replace F := canon_fr _ F (psC hm psN)
      k_steps
      (all_goals first | (show Addr; exact (0 : Nat)) | (show Str; exact Str.ofString "") | (show Value; exact Value.none) | (show List (Str × Addr); exact []) | skip)
      unfold Halt
      refine Cr.use (law_driver_ct w) (by assumption) (by assumption) N (by k_updF) hI hok rfl (by omega) (by omega) ?_
      rintro v9 h9 tk9 us9 nu9 ns9 tl9 _ F9 N9 O9 I9 R9 T9 ⟨p9, rfl, hp9⟩
      (try dsimp only at N9 O9)
      refine ⟨_, _, _, (L, oL) :: (D, listOf (List.toArray ys) nD) :: (I, oI) :: (R, listOf (List.toArray us9) nu9) :: (L + 1 + 1 + 1 + 1 + 1, o5) :: (L + 1 + 1 + 1 + 1, o4) :: (L + 1 + 1 + 1, o3) :: (L + 1 + 1, o2) :: (L + 1, o1) :: (tl ++ (tl2 ++ tl9)), rfl, F9, News.sub N9 (by walk_at "nsub"), ?_, (fun _ q => nomatch q), us9, nu9, ns9, tl2 ++ tl9, ps ++ [p9], rfl, I9, R9, ?_, ?_, ?_, ?_, ?_, ?_, ?_, ?_⟩
      · refine off_map off2 (tl := tl9) (fun q hq => O9 q ?_) (by (simp only [List.map_cons, List.map_append, List.map_nil, List.cons_append, List.nil_append, List.append_assoc, List.append_nil]))
        revert q
        walk_at "nsub"
      · exact List.forall_mem_append.mpr ⟨b1, O9 (R, listOf (List.toArray us9) nu9) (by k_mem)⟩
      · exact List.forall_mem_append.mpr ⟨b3, O9 (L + 1 + 1 + 1, o3) (by k_mem)⟩
      · exact List.forall_mem_append.mpr ⟨b4, O9 (L + 1 + 1 + 1 + 1, o4) (by k_mem)⟩
      · exact List.forall_mem_append.mpr ⟨b5, O9 (L + 1 + 1 + 1 + 1 + 1, o5) (by k_mem)⟩
      · refine off_map hoff2 (tl := tl9) (fun q hq => O9 q ?_) (by (simp only [List.map_cons, List.map_append, List.map_nil, List.cons_append, List.nil_append, List.append_assoc, List.append_nil]))
        revert q
        walk_at "nsub"
      · intro p hp
        rcases List.mem_append.mp hp with z | z
        · exact hps p z
        · rw [List.mem_singleton.mp z]; exact hp9
      · rw [List.length_append, hpl]; rfl
      · rw [List.map_append]
        exact inA_snoc hB T9
    case done2 =>
      rintro ys2 nx2 D2 nD2 hh2 tkh2 ⟨us, nu, ns, tl2, ps, rfl, hI, hok, b1, b3, b4, b5, hoff2, hps, hpl, hB⟩ hlen2 F N off2
      k_steps
      (all_goals first | (show Addr; exact (0 : Nat)) | (show Str; exact Str.ofString "") | (show Value; exact Value.none) | (show List (Str × Addr); exact []) | skip)
      have O2 : ∀ q, q ∈ ((L, oL) :: (D, listOf (List.toArray ys) nD) :: (I, oI) :: (R, listOf (List.toArray us) nu) :: (L + 1 + 1 + 1 + 1 + 1, o5) :: (L + 1 + 1 + 1 + 1, o4) :: (L + 1 + 1 + 1, o3) :: (L + 1 + 1, o2) :: (L + 1, o1) :: (tl ++ tl2)) → ∀ p, p ∈ [(D2, listOf (List.toArray ys2) nD2)] → p.1 ≠ q.1 := fun q hq p hp => by
        rw [List.mem_singleton.mp hp]; exact Ne.symm (off2 q hq)
      refine ⟨_, _, _, (R, listOf (List.toArray us) nu) :: (L + 1 + 1 + 1 + 1 + 1, o5) :: (L + 1 + 1 + 1 + 1, o4) :: (L + 1 + 1 + 1, o3) :: (L + 1 + 1, o2) :: (L + 1, o1) :: (tl ++ (tl2 ++ [(D2, listOf (List.toArray ys2) nD2)])), rfl, F, News.sub N (by walk_at "nsub"), ?_, (fun _ q => nomatch q), us, nu, ns, tl ++ (tl2 ++ [(D2, listOf (List.toArray ys2) nD2)]), fs ++ [ps], rfl, hI, hok, ?_, ?_, ?_, ?_, ?_, ?_, ?_⟩
      · refine off_map off (tl := tl2 ++ [(D2, listOf (List.toArray ys2) nD2)]) (fun q hq => List.forall_mem_append.mpr ⟨fun p hp => hoff2 p hp q hq, O2 q ?_⟩) (by (simp only [List.map_cons, List.map_append, List.map_nil, List.cons_append, List.nil_append, List.append_assoc, List.append_nil]))
        revert q
        walk_at "nsub"
      · exact List.forall_mem_append.mpr ⟨a1, List.forall_mem_append.mpr ⟨b1, O2 (R, listOf (List.toArray us) nu) (by k_mem)⟩⟩
      · exact List.forall_mem_append.mpr ⟨a3, List.forall_mem_append.mpr ⟨b3, O2 (L + 1 + 1 + 1, o3) (by k_mem)⟩⟩
      · exact List.forall_mem_append.mpr ⟨a4, List.forall_mem_append.mpr ⟨b4, O2 (L + 1 + 1 + 1 + 1, o4) (by k_mem)⟩⟩
      · exact List.forall_mem_append.mpr ⟨a5, List.forall_mem_append.mpr ⟨b5, O2 (L + 1 + 1 + 1 + 1 + 1, o5) (by k_mem)⟩⟩
      · intro f hf
        rcases List.mem_append.mp hf with z | z
        · exact hfs f z
        · rw [List.mem_singleton.mp z]; exact ⟨hpl, hps⟩
      · rw [List.length_append, hfl]; rfl
      · rw [List.map_append]
        refine inA_snoc hA (.list (List.mem_append_right _ (.head _)) ?_)
        exact InA.sub (fun p hp => List.mem_append_left _ hp) hB
  case done =>
    rintro ys nx D nD hh tkh ⟨us, nu, ns, tl, fs, rfl, hI, hok, a1, a3, a4, a5, hfs, hfl, hA⟩ hlen' F N off
    have r2 : @Ne Nat R D := off _ (.head _)
    k_steps
    unfold Halt
    refine Cr.use (law_bits_ct w n (by omega)) (by assumption) (by assumption) (by assumption) (by k_updF) hI hok ⟨t2, rfl⟩ (by omega) (by omega) ?_
    rintro v9 h9 tk9 us9 nu9 ns9 tl9 _ F9 N9 O9 I9 R9 T9 ⟨hs, rfl, hhl, hh2⟩
    (try dsimp only at N9 O9)
    clear N
    (try simp only [List.cons_append, List.nil_append, List.append_assoc] at N9)
    k_steps
    unfold Halt
    rename News _ _ _ _ => N8
    refine Pu.use (resolve_ct w kind n fs (intsD hs) (heldV hs) (by omega) (fun f hf => (hfs f hf).1) (by omega) (held_ct w hs n hhl (by omega))) (by assumption) (by assumption) N8 (.cons (.str _ _) (.cons (.int _ _) (.cons (.list (N8 (D, listOf (List.toArray ys) nD) (by k_mem)).1 (InA.rd N8 (InA.sub (fun p hp => by simp only [List.mem_cons, List.mem_append, hp, true_or, or_true]) hA))) (.cons (In.rd N8 (In.sub (fun p hp => by simp only [List.mem_cons, List.mem_append, hp, true_or, or_true]) T9)) .nil)))) (by omega) (by omega) ?_
    intro v7 h7 tk7 tl7 F7 N7 O7 I7
    (try simp only [List.cons_append, List.nil_append, List.append_assoc] at N7)
    k_steps
    unfold Halt
    rename News _ _ _ _ => N6
    have n3 : @Ne Nat D (L + 1 + 1 + 1) := Ne.symm (off (L + 1 + 1 + 1, o3) (by k_mem))
    have n4 : @Ne Nat D (L + 1 + 1 + 1 + 1) := Ne.symm (off (L + 1 + 1 + 1 + 1, o4) (by k_mem))
    have n5 : @Ne Nat D (L + 1 + 1 + 1 + 1 + 1) := Ne.symm (off (L + 1 + 1 + 1 + 1 + 1, o5) (by k_mem))
    refine h _ _ fs hs ⟨hkind, hn1, hn6, by omega, fun f hf => (hfs f hf).1, fun f hf => (hfs f hf).2, hhl, hh2⟩
      ⟨_, (D, listOf (List.toArray ys) nD) :: (tl ++ (tl9 ++ tl7)), R, us9, nu9, ns9, o1, o2, o3, o4, o5, _, _, _, by assumption, ⟨News.sub N6 (by walk_at "nsub"), I9, R9, d1, ⟨_, d2⟩, d3, d4, d5, f1, f2, f3, f4, f5, ?_, ?_, ?_, ?_⟩, HasS.of rfl rfl, HasI.of rfl (by rw [hfl]), by rfl, .list (.head _) (InA.sub (fun p hp => by simp only [List.mem_cons, List.mem_append, hp, true_or, or_true]) hA), by rfl, In.sub (fun p hp => by simp only [List.mem_cons, List.mem_append, hp, true_or, or_true]) T9, by rfl, In.sub (fun p hp => by simp only [List.mem_cons, List.mem_append, hp, true_or, or_true]) I7⟩
    · exact List.forall_mem_cons.mpr ⟨Ne.symm r2, List.forall_mem_append.mpr ⟨a1, List.forall_mem_append.mpr ⟨O9 (R, listOf (List.toArray us9) nu9) (by k_mem), O7 (R, listOf (List.toArray us9) nu9) (by k_mem)⟩⟩⟩
    · exact List.forall_mem_cons.mpr ⟨n3, List.forall_mem_append.mpr ⟨a3, List.forall_mem_append.mpr ⟨O9 (L + 1 + 1 + 1, o3) (by k_mem), O7 (L + 1 + 1 + 1, o3) (by k_mem)⟩⟩⟩
    · exact List.forall_mem_cons.mpr ⟨n4, List.forall_mem_append.mpr ⟨a4, List.forall_mem_append.mpr ⟨O9 (L + 1 + 1 + 1 + 1, o4) (by k_mem), O7 (L + 1 + 1 + 1 + 1, o4) (by k_mem)⟩⟩⟩
    · exact List.forall_mem_cons.mpr ⟨n5, List.forall_mem_append.mpr ⟨a5, List.forall_mem_append.mpr ⟨O9 (L + 1 + 1 + 1 + 1 + 1, o5) (by k_mem), O7 (L + 1 + 1 + 1 + 1 + 1, o5) (by k_mem)⟩⟩⟩
end
theorem again_NW2 {m A e Q E s} (h : wpAny m A (execs [] e) Q E s) : wpAny m A (execs [] e) Q E s := by first | (walk1; fail) | exact h
/- NW3 -/
theorem stop3 {m A x0 x1 x2 x3 x4 Q E s} (h : Halt (wpAny m A (execs (Stmt.Assign [Expr.Name (PySem.Str.ofString "turn") x0] x1 x2 :: x3) x4) Q E s)) : wpAny m A (execs (Stmt.Assign [Expr.Name (PySem.Str.ofString "turn") x0] x1 x2 :: x3) x4) Q E s := h
section
 local macro_rules | `(tactic| walk_at "execs cons") => `(tactic| with_reducible refine stop3 ?_)
theorem lawRest_eq (kind : Str) (held : Int) (h : 0 ≤ held ∧ held < 4) : lawRest kind held = prP (restP kind held) := by
  unfold lawRest restP driveBitP
  by_cases e1 : kind = Str.ofString "trireg"
  · subst e1
    have : held = 0 ∨ held = 1 ∨ held = 2 ∨ held = 3 := by omega
    rcases this with rfl | rfl | rfl | rfl <;> rfl
  · have h1 : (kind == Str.ofString "trireg") = false := by simp [e1]
    simp only [h1, Bool.false_eq_true, if_false]
    (repeat' split) <;> rfl
theorem rest_lawP (w : World) (kind : Str) (held : Int) (h : 0 ≤ held ∧ held < 4) : Pu w 150 1 [.str kind, .int held] (prP (restP kind held)) := lawRest_eq kind held h ▸ law_rest_ct w kind held h
def dueL (kind : Str) (fs : List (List (Int × Int))) (hs : List Int) (i : Nat) : List Int := (List.range i).map fun b => lawCode kind (restP kind (heldV hs b) :: atP fs b)
theorem ne_map {nx nx' : List (Addr × Obj)} {a : Addr} (h : ∀ p ∈ nx, p.1 ≠ a) (e : nx'.map Prod.fst = nx.map Prod.fst) : ∀ p ∈ nx', p.1 ≠ a := by
  intro p hp
  have hm : p.1 ∈ nx'.map Prod.fst := List.mem_map_of_mem hp
  rw [e] at hm
  obtain ⟨r, hr, er⟩ := List.mem_map.mp hm
  rw [← er]; exact h r hr
theorem shaped_vec (ns : List Int) : SeqAt.shaped (vecD ns) = true := by
  simp [SeqAt.shaped, PyData.canLay0, PyData.canLayAll0, PyData.depth, PyData.depthAll]
theorem allLt_ne {d : Addr} {l : List (Addr × Obj)} : AllLt d l → ∀ p ∈ l, p.1 ≠ d := by
  induction l with
  | nil => intro _ p hp; exact nomatch hp
  | cons q r ih =>
    intro h p hp
    rcases List.mem_cons.mp hp with e | hp
    · rw [e]; exact Nat.ne_of_lt h.1
    · exact ih h.2 p hp
theorem in_list {P : Addr → Obj → Prop} {v : Value} {ds : List PyData} (h : Dt P v (.list ds)) : ∃ a vs n, v = .ref a ∧ P a (listOf (List.toArray vs) n) ∧ DtA P vs ds := by
  cases h with | list a b => exact ⟨_, _, _, rfl, a, b⟩
 local macro_rules | `(tactic| walk_at "call builtin:list.append") => `(tactic| (refine halt ?_))
 local macro_rules | `(tactic| walk_at "compareOp NotEq ref ref") => `(tactic| (refine halt ?_))
theorem dueL_step (kind : Str) (fs : List (List (Int × Int))) (hs : List Int) (i : Nat) : dueL kind fs hs (i + 1) = dueL kind fs hs i ++ [lawCode kind (restP kind (heldV hs i) :: atP fs i)] := by
  simp [dueL, List.range_succ]
theorem atP_take (fs : List (List (Int × Int))) (i k : Nat) (hk : k < fs.length) (hi : i < fs[k].length) : ((atP fs i).take (k + 1)).map prP = ((atP fs i).take k).map prP ++ [prP fs[k][i]] := by
  have hk' : k < (atP fs i).length := by rw [atP, List.length_map]; exact hk
  rw [take_snoc _ hk']
  simp [atP, List.getD_eq_getElem?_getD, hi]
set_option maxHeartbeats 4000000 in
theorem law_p3 {w : World} {dp un : Nat} {gd : Option (List Code)} {fr : Option (List Env)} {s : Shared} {h₀ : Heap} {L : Addr} {oc : Value} {od : Option Addr} {osl : Array (Option Value)} {name qual : Str} {params : Arguments} {body : List Stmt} {scope : Scope} {dV kV doc pm cdv ct cx : Value} {an : Option Addr} {fx : Addr}
    {kind : Str} {n : Nat} {fs : List (List (Int × Int))} {hs : List Int} {Q : Flow → Shared → Prop}
    (ho : (Mine.hd.heap_39 w.params).lookup 172 = some ⟨oc, od, .func (fnOf name qual params body scope dV kV doc pm an cdv ct), osl⟩)
    (G : Gd w h₀) (hd : dp + 8 < recursionLimit) (hu : un + 8 * 8 + 64 < cLine) (ok : LawOk kind n fs hs) (heq : codesOf (toldP kind n fs hs) = dueL kind fs hs n) (V : InvA h₀ L kind n fs hs s.heap)
    (h : ∀ h' tk, InvA h₀ L kind n fs hs h' → wpAny (model PR w) (Ar dp un gd fr) (execs (body.drop 10) (envOfC qual scope L fx cx)) Q NoE { s with heap := h', toks := tk }) :
    wpAny (model PR w) (Ar dp un gd fr) (execs (body.drop 7) (envOfC qual scope L fx cx)) Q NoE s := by
  have X9 := G.k
  have e := ho.symm.trans (by k_is : (Mine.hd.heap_39 w.params).lookup 172 = some ⟨_, _, .func (fnOf _ _ _ _ _ _ _ _ _ _ _ _), _⟩)
  cases e
  obtain ⟨_, _, _, _, _, T9⟩ := G.t
  obtain ⟨m, tl, R, us, nu, ns, o1, o2, o3, o4, o5, vf, vh, vt, F, ⟨N, hI, hok, d1, ⟨t2, d2⟩, ⟨c3, d3⟩, ⟨c4, d4⟩, ⟨c5, d5⟩, f1, f2, f3, f4, f5, aR, a3, a4, a5⟩, ⟨tk1, hk1⟩, ⟨tk2, hk2⟩, hfe, If, hhe, Ih, hto, It⟩ := V
  replace F := canon_fr _ F (psC hk1 (psC hk2 (psC hfe (psC hhe (psC hto psN)))))
  dsimp only [List.drop] at h ⊢
  have hn6 := ok.n6
  have hn1 := ok.n1
  have hlen := ok.len
  have hhl := ok.hlen
  obtain ⟨fa, fvs, fn, rfl, hfm, hfA⟩ := in_list If
  obtain ⟨ta, tvs, tn, rfl, htm, htA⟩ := in_list It
  have hfvl := hfA.len
  rw [List.length_map] at hfvl
  k_steps
  rename_i Dd _ l1 _ _ _ _ _ _ _ _ hR F9 N9 _
  obtain ⟨x1, x2, x3, x4, x5, x6, x7⟩ := l1
  have ltl : ∀ p ∈ tl, p.1 ≠ Dd := allLt_ne x7
  refine for_range0 F9 N9 hR (by omega) (fun i m nx => ∃ o3 c3 ds nd, nx = (Dd, listOf (List.toArray ds) nd) :: (R, listOf (List.toArray us) nu) :: (L + 1 + 1 + 1 + 1 + 1, o5) :: (L + 1 + 1 + 1 + 1, o4) :: (L + 1 + 1 + 1, o3) :: (L + 1 + 1, o2) :: (L + 1, o1) :: tl ∧ o3.data = Data.cell c3 ∧ Ints ds (dueL kind fs hs i) ∧ ds.length = i ∧ HasS m "kind" kind ∧ HasI m "many" fs.length ∧ Has m "feeds" (.ref fa) ∧ Has m "held" vh ∧ Has m "told" (.ref ta) ∧ Has m "due" (.ref Dd))
    ⟨o3, c3, [], _, rfl, d3, .nil, rfl, HasS.of rfl rfl, HasI.of rfl rfl, rfl, rfl, rfl, rfl⟩ ?turn ?done
  case turn =>
    rintro i t m nx I oI hh tkh hi ⟨o3, c3, ds, nd, rfl, d3, hD, hdl, ⟨tk1, hk1⟩, ⟨tk2, hk2⟩, hfe, hhe, hto, hdu⟩ off F N
    replace F := canon_fr _ F (psC hk1 (psC hk2 (psC hfe (psC hhe (psC hto (psC hdu psN))))))
    have y1 : @Ne Nat Dd I := off _ (.head _)
    have y2 : @Ne Nat (L + 1 + 1 + 1) I := off (L + 1 + 1 + 1, o3) (by k_mem)
    have hx : (hs.map PyData.int)[((i : Int)).toNat]? = some (.int (heldV hs i)) := by simp [heldV, List.getD_eq_getElem?_getD, hhl, hi]
    have hx2 : 0 ≤ heldV hs i ∧ heldV hs i < 4 := getD_range ok.two i
    k_steps
    rename Obj => oX
    rename oX.data = _ => dX
    rename News _ _ _ _ => N9
    rename In _ _ (prP (restP kind (heldV hs i))) => I9
    refine comp_list (by assumption) N9 (N9 (fa, listOf (List.toArray fvs) fn) (by simp only [List.mem_cons, List.mem_append, hfm, true_or, or_true])).1 (i64 (by omega)) [(fa, listOf (List.toArray fvs) fn)] (.inr ⟨_, .head _⟩) (fun p hp => by rw [List.mem_singleton.mp hp]; simp only [List.mem_cons, List.mem_append, hfm, true_or, or_true]) (fun k ys nx => nx = _ ∧ InA tl ys (((atP fs i).take k).map prP)) ⟨rfl, .nil⟩ ?turn2 ?done2
    case turn2 =>
      rintro k v ys nx C mc oL D nD I2 oI2 h2 tk2' hk hv ⟨rfl, hA2⟩ hlen' hkp F hm N off2
      have hkf : k < fs.length := by omega
      have hfl := ok.each _ (List.getElem_mem hkf)
      have hv2 := hfA.at hv (d := pairsD fs[k]) (by simp [hkf])
      replace F := canon_fr _ F (psC hm psN)
      simp only [List.cons_append, List.nil_append] at N
      have hx3 : (fs[k].map prP)[((i : Int)).toNat]? = some (prP fs[k][i]) := by simp [hfl, hi]
      k_steps
      (all_goals first | (show Addr; exact (0 : Nat)) | (show Str; exact Str.ofString "") | (show Value; exact Value.none) | (show List (Str × Addr); exact []) | skip)
      refine ⟨_, _, _, _, rfl, F, N, off2, hkp, rfl, ?_⟩
      rw [atP_take fs i k hkf (by rw [hfl]; exact hi)]
      exact DtA.snoc hA2 (by assumption)
    case done2 =>
      rintro ys nx D nD h2 tk2' ⟨rfl, hA2⟩ hlen' hkp F N off2
      rw [hfvl, show fs.length = (atP fs i).length by rw [atP, List.length_map], List.take_length] at hA2
      have hal : (atP fs i).length = fs.length := by rw [atP, List.length_map]
      k_steps
      unfold Halt
      refine add_ledger F N (.tail _ (.head _)) (.head _) (by simp only [List.length_cons, List.length_nil]; omega) ?_
      intro D2 h3 F3 N3 ap3
      k_steps
      unfold Halt
      refine Pu.useI (law_code_ct w kind (restP kind (heldV hs i) :: atP fs i) (by rw [List.length_cons]; omega) (by simp)) (by assumption) F3 N3 (.cons (.str _ _) (.cons (.list (N3 _ (.head _)).1 (.cons (In.rd N3 (In.sub (fun p hp => by simp only [List.mem_cons, List.mem_append, hp, true_or, or_true]) I9)) (InA.rd N3 (InA.sub (fun p hp => by simp only [List.mem_cons, List.mem_append, hp, true_or, or_true]) hA2)))) .nil)) (by omega) (by omega) ?_
      intro t4 h4 tk4 F4 N4
      k_steps
      unfold Halt
      rename News _ _ _ _ => N5
      replace N5 : News _ _ _ ((I, oI) :: (Dd, listOf (List.toArray ds) nd) :: (R, listOf (List.toArray us) nu) :: (L + 1 + 1 + 1 + 1 + 1, o5) :: (L + 1 + 1 + 1 + 1, o4) :: (L + 1 + 1 + 1, oX) :: (L + 1 + 1, o2) :: (L + 1, o1) :: tl) := News.sub N5 (by walk_at "nsub")
      have hDd : ∀ p ∈ ((R, listOf (List.toArray us) nu) :: (L + 1 + 1 + 1 + 1 + 1, o5) :: (L + 1 + 1 + 1 + 1, o4) :: (L + 1 + 1 + 1, oX) :: (L + 1 + 1, o2) :: (L + 1, o1) :: tl), p.1 ≠ Dd := by k_all
      refine append_K (by assumption) N5 (Upd.tail (Ne.symm y1) (Upd.head hDd)) ?_ (by rw [List.size_toArray]; exact i64 (by omega))
      intro h6 F6 N6
      (try simp only [List.push_toArray] at N6)
      k_steps
      refine ⟨_, _, _, _, rfl, F6, N6, ne_map off (by (simp only [List.map_cons, List.map_append, List.map_nil, List.cons_append, List.nil_append, List.append_assoc, List.append_nil])), (fun _ h => nomatch h), oX, _, ds ++ [_], _, rfl, dX, ?_, by rw [List.length_append, hdl]; rfl, HasS.of (by rfl) rfl, HasI.of (by rfl) rfl, by rfl, by rfl, by rfl, by rfl⟩
      rw [dueL_step]
      exact ints_add hD
  case done =>
    rintro m nx hh tkh ⟨o3, c3, ds, nd, rfl, d3, hD, hdl, ⟨tk1, hk1⟩, ⟨tk2, hk2⟩, hfe, hhe, hto, hdu⟩ F N
    replace F := canon_fr _ F (psC hk1 (psC hk2 (psC hfe (psC hhe (psC hto (psC hdu psN))))))
    have htv := htA.len
    rw [List.length_map, show (toldP kind n fs hs).length = n by simp [resP]] at htv
    k_steps
    refine comp_list (by assumption) N (N (ta, listOf (List.toArray tvs) tn) (by simp only [List.mem_cons, List.mem_append, htm, true_or, or_true])).1 (i64 (by omega)) [(ta, listOf (List.toArray tvs) tn)] (.inr ⟨_, .head _⟩) (fun p hp => by rw [List.mem_singleton.mp hp]; simp only [List.mem_cons, List.mem_append, htm, true_or, or_true]) (fun k ys nx => nx = _ ∧ Ints ys ((codesOf (toldP kind n fs hs)).take k)) ⟨rfl, .nil⟩ ?turn2 ?done2
    case turn2 =>
      rintro k v ys nx C mc oL D nD I2 oI2 h2 tk2' hk hv ⟨rfl, hA2⟩ hlen' hkp F hm N off2
      have hkf : k < (toldP kind n fs hs).length := by simp [resP]; omega
      have hv2 := htA.at hv (d := prP (toldP kind n fs hs)[k]) (by simp [hkf])
      replace F := canon_fr _ F (psC hm psN)
      simp only [List.cons_append, List.nil_append] at N
      k_steps
      (all_goals first | (show Addr; exact (0 : Nat)) | (show Str; exact Str.ofString "") | (show Value; exact Value.none) | (show List (Str × Addr); exact []) | skip)
      refine Pu.useI (pair_code_ct w _ _) (by assumption) F N (.cons (In.rd N (In.sub (fun p hp => by simp only [List.mem_cons, List.mem_append, hp, true_or, or_true]) hv2)) .nil) (by omega) (by omega) ?_
      intro t4 h4 tk4 F4 N4
      refine ⟨_, _, _, _, rfl, F4, N4, off2, hkp, rfl, ?_⟩
      have hkc : k < (codesOf (toldP kind n fs hs)).length := by simp only [List.length_map]; exact hkf
      rw [List.take_add_one, List.getElem?_eq_getElem hkc]
      have ec : (codesOf (toldP kind n fs hs))[k] = pairCode (toldP kind n fs hs)[k].1 (toldP kind n fs hs)[k].2 := by simp only [List.getElem_map]
      rw [ec]
      exact ints_add hA2
    case done2 =>
      rintro ys nx D nD h2 tk2' ⟨rfl, hA2⟩ hlen' hkp F N off2
      rw [List.take_of_length_le (by rw [htv]; simp [resP])] at hA2
      rw [heq] at hA2
      k_steps
      unfold Halt
      refine ne_rd (dt_int_data (N _ (.head _)).1 hA2) (dt_int_data (N (Dd, listOf (List.toArray ds) nd) (by k_mem)).1 hD) (shaped_ints _) (shaped_ints _) (by dsimp only; omega) (SeqAt.eqv_refl _ (SeqAt.canLay_of_shaped (shaped_ints _))) ?_
      k_steps
      unfold Halt
      refine Pu.use (pairs_vec_ct w (toldP kind n fs hs) (by simp [resP]; omega)) (by assumption) (by assumption) N (.cons (.list (N (ta, listOf (List.toArray tvs) tn) (by simp only [List.mem_cons, List.mem_append, htm, true_or, or_true])).1 (InA.rd N (InA.sub (fun p hp => by simp only [List.mem_cons, List.mem_append, hp, true_or, or_true]) htA))) .nil) (by omega) (by omega) ?_
      intro v6 h6 tk6 tl6 F6 N6 O6 I6
      (try simp only [List.cons_append, List.nil_append, List.append_assoc] at N6)
      rw [heq] at I6
      k_steps
      unfold Halt
      refine Pu.use (law_made_ct w (dueL kind fs hs n) (by simp [dueL]; omega) (heq ▸ codesOf_range _)) (by assumption) F6 N6 (.cons (dt_int_data (N6 (Dd, listOf (List.toArray ds) nd) (by k_mem)).1 hD) .nil) (by omega) (by omega) ?_
      intro v7 h7 tk7 tl7 F7 N7 O7 I7
      (try simp only [List.cons_append, List.nil_append, List.append_assoc] at N7)
      k_steps
      refine ne_rd (In.rd N7 (In.sub (fun p hp => by simp only [List.mem_cons, List.mem_append, hp, true_or, or_true]) I6)) (In.rd N7 (In.sub (fun p hp => by simp only [List.mem_cons, List.mem_append, hp, true_or, or_true]) I7)) (shaped_vec _) (shaped_vec _) (by dsimp only; omega) (SeqAt.eqv_refl _ (SeqAt.canLay_of_shaped (shaped_vec _))) ?_
      k_steps
      unfold Halt
      exact h _ _ ⟨_, tl, R, us, nu, ns, o1, o2, o3, o4, o5, _, _, _, F7, ⟨News.sub N7 (by walk_at "nsub"), hI, hok, d1, ⟨_, d2⟩, ⟨_, d3⟩, ⟨_, d4⟩, ⟨_, d5⟩, f1, f2, f3, f4, f5, aR, a3, a4, a5⟩, HasS.of rfl rfl, HasI.of rfl rfl, by rfl, If, by rfl, Ih, by rfl, It⟩
end
theorem again_NW3 {m A e Q E s} (h : wpAny m A (execs [] e) Q E s) : wpAny m A (execs [] e) Q E s := by first | (walk1; fail) | exact h
/- NW4 -/
theorem stop4 {m A x0 x1 x2 x3 x4 x5 x6 Q E s} (h : Halt (wpAny m A (execs (Stmt.For (Expr.Name (PySem.Str.ofString "bit") x0) x1 x2 x3 x4 :: x5) x6) Q E s)) : wpAny m A (execs (Stmt.For (Expr.Name (PySem.Str.ofString "bit") x0) x1 x2 x3 x4 :: x5) x6) Q E s := h
local macro_rules | `(tactic| walk_at "subscriptTail Name Slice ref ref") => `(tactic| (refine halt ?_))
section
 local macro_rules | `(tactic| walk_at "execs cons") => `(tactic| with_reducible refine stop4 ?_)
theorem DtA.append {P : Addr → Obj → Prop} : ∀ {vs us : List Value} {ds es : List PyData}, DtA P vs ds → DtA P us es → DtA P (vs ++ us) (ds ++ es)
  | _, _, _, _, .nil, h => h
  | _, _, _, _, .cons a r, h => .cons a (DtA.append r h)
theorem DtA.drop {P : Addr → Obj → Prop} : ∀ (k : Nat) {vs : List Value} {ds : List PyData}, DtA P vs ds → DtA P (vs.drop k) (ds.drop k)
  | 0, _, _, h => h
  | _ + 1, _, _, .nil => .nil
  | k + 1, _, _, .cons _ r => DtA.drop k r
theorem DtA.take {P : Addr → Obj → Prop} : ∀ (k : Nat) {vs : List Value} {ds : List PyData}, DtA P vs ds → DtA P (vs.take k) (ds.take k)
  | 0, _, _, _ => .nil
  | _ + 1, _, _, .nil => .nil
  | k + 1, _, _, .cons a r => .cons a (DtA.take k r)
theorem DtA.reverse {P : Addr → Obj → Prop} : ∀ {vs : List Value} {ds : List PyData}, DtA P vs ds → DtA P vs.reverse ds.reverse
  | _, _, .nil => .nil
  | _, _, .cons a r => by rw [List.reverse_cons, List.reverse_cons]; exact DtA.snoc (DtA.reverse r) a
theorem shaped_pairs (ps : List (Int × Int)) : SeqAt.shaped (pairsD ps) = true :=
  shaped_list (k := 1) (by omega) (fun _ => by simp [PyData.canLay0, PyData.canLayAll0]) (fun _ => by simp [PyData.depth, PyData.depthAll]) ps
theorem pick_from (vs : List Value) (t : Nat) : kms_pick vs (some (t : Int)) none = vs.drop t := by
  unfold kms_pick kms_lo kms_hi
  simp only [if_neg (show ¬ ((t : Int) < 0) by omega), Int.toNat_natCast]
  rw [kmk_drop_min, List.take_of_length_le (by rw [List.length_drop]; omega)]
theorem pick_upto (vs : List Value) (t : Nat) : kms_pick vs none (some (t : Int)) = vs.take t := by
  unfold kms_pick kms_lo kms_hi
  simp only [if_neg (show ¬ ((t : Int) < 0) by omega), Int.toNat_natCast, List.drop_zero, Nat.sub_zero]
  rw [kmk_take_min]
def InvB (h₀ : Heap) (L : Addr) (kind : Str) (n : Nat) (fs : List (List (Int × Int))) (hs : List Int) (turn : Nat) (h : Heap) : Prop :=
  ∃ m tl R us nu ns o1 o2 o3 o4 o5 vf vh vt, Fr h₀ L h m ∧ Led h₀ L h n tl R us nu ns o1 o2 o3 o4 o5 ∧ HasS m "kind" kind ∧ HasI m "many" fs.length ∧
    Has m "feeds" vf ∧ In tl vf (feedsD fs) ∧ Has m "held" vh ∧ In tl vh (intsD hs) ∧ Has m "told" vt ∧ In tl vt (pairsD (toldP kind n fs hs)) ∧ HasI m "turn" turn
set_option maxHeartbeats 4000000 in
theorem law_p4 {w : World} {dp un : Nat} {gd : Option (List Code)} {fr : Option (List Env)} {s : Shared} {h₀ : Heap} {L : Addr} {oc : Value} {od : Option Addr} {osl : Array (Option Value)} {name qual : Str} {params : Arguments} {body : List Stmt} {scope : Scope} {dV kV doc pm cdv ct cx : Value} {an : Option Addr} {fx : Addr}
    {kind : Str} {n : Nat} {fs : List (List (Int × Int))} {hs : List Int} {Q : Flow → Shared → Prop}
    (ho : (Mine.hd.heap_39 w.params).lookup 172 = some ⟨oc, od, .func (fnOf name qual params body scope dV kV doc pm an cdv ct), osl⟩)
    (G : Gd w h₀) (hd : dp + 8 < recursionLimit) (hu : un + 8 * 8 + 64 < cLine) (ok : LawOk kind n fs hs) (hperm : ∀ fs', fs'.Perm fs → toldP kind n fs' hs = toldP kind n fs hs) (V : InvA h₀ L kind n fs hs s.heap)
    (h : ∀ h' tk turn, turn ≤ fs.length → InvB h₀ L kind n fs hs turn h' → wpAny (model PR w) (Ar dp un gd fr) (execs (body.drop 13) (envOfC qual scope L fx cx)) Q NoE { s with heap := h', toks := tk }) :
    wpAny (model PR w) (Ar dp un gd fr) (execs (body.drop 10) (envOfC qual scope L fx cx)) Q NoE s := by
  have X9 := G.k
  have e := ho.symm.trans (by k_is : (Mine.hd.heap_39 w.params).lookup 172 = some ⟨_, _, .func (fnOf _ _ _ _ _ _ _ _ _ _ _ _), _⟩)
  cases e
  obtain ⟨_, _, _, _, _, T9⟩ := G.t
  obtain ⟨m, tl, R, us, nu, ns, o1, o2, o3, o4, o5, vf, vh, vt, F, ⟨N, hI, hok, d1, ⟨t2, d2⟩, ⟨c3, d3⟩, ⟨c4, d4⟩, ⟨c5, d5⟩, f1, f2, f3, f4, f5, aR, a3, a4, a5⟩, ⟨tk1, hk1⟩, ⟨tk2, hk2⟩, hfe, If, hhe, Ih, hto, It⟩ := V
  replace F := canon_fr _ F (psC hk1 (psC hk2 (psC hfe (psC hhe (psC hto psN)))))
  dsimp only [List.drop] at h ⊢
  have hn6 := ok.n6
  have hn1 := ok.n1
  have hlen := ok.len
  have hhl := ok.hlen
  obtain ⟨fa, fvs, fn, rfl, hfm, hfA⟩ := in_list If
  have hfvl := hfA.len
  rw [List.length_map] at hfvl
  k_steps
  rename_i kt _ _ hkt _ F9 N9
  obtain ⟨us9, nu9, ns9, N9, hI9, hR9⟩ : ∃ us nu ns, News h₀ L _ ((R, listOf (List.toArray us) nu) :: _) ∧ Ints us ns ∧ RowOk ns := ⟨_, _, _, N9, by assumption, by assumption⟩
  have hkl : kt ≤ fs.length := by split at hkt <;> omega
  unfold Halt
  refine kms_slice_lit F9 N9 (isList_of (N9 (fa, listOf (List.toArray fvs) fn) (by simp only [List.mem_cons, List.mem_append, hfm, true_or, or_true])).1) (IsPart.int _ _) .none (pick_from fvs kt) ?_ (by with_unfolding_all rfl) (by kmk_pure) (by rw [List.size_toArray]; exact i64 (by omega))
  intro D1 h1 F1 N1 l1
  k_steps
  unfold Halt
  refine kms_slice_lit F1 N1 (isList_of (N1 (fa, listOf (List.toArray fvs) fn) (by simp only [List.mem_cons, List.mem_append, hfm, true_or, or_true])).1) .none (IsPart.int _ _) (pick_upto fvs kt) ?_ (by with_unfolding_all rfl) (by kmk_pure) (by rw [List.size_toArray]; exact i64 (by omega))
  intro D2 h2 F2 N2 l2
  k_steps
  unfold Halt
  refine add_ledger F2 N2 (.tail _ (.head _)) (.head _) (by rw [List.length_drop, List.length_take]; omega) ?_
  intro D3 h3 F3 N3 ap3
  k_steps
  unfold Halt
  rename Fr _ _ _ _ => F4
  rename News _ _ _ _ => N4
  refine krv_lit F4 N4 (isList_of (N4 _ (.head _)).1) (IsPart.int _ _) rfl ?_ (by with_unfolding_all rfl) (by kmk_pure) (by rw [List.size_toArray, List.length_append, List.length_drop, List.length_take]; exact i64 (by omega))
  intro D5 h5 F5 N5 l5
  k_steps
  unfold Halt
  have A3 : InA tl (fvs.drop kt ++ fvs.take kt) ((fs.drop kt ++ fs.take kt).map pairsD) := by
    rw [List.map_append, List.map_drop, List.map_take]
    exact (hfA.drop kt).append (hfA.take kt)
  have A5 : InA tl (fvs.drop kt ++ fvs.take kt).reverse ((fs.drop kt ++ fs.take kt).reverse.map pairsD) := by
    rw [List.map_reverse]
    exact A3.reverse
  have p3 : (fs.drop kt ++ fs.take kt).Perm fs := List.perm_append_comm.trans (by rw [List.take_append_drop])
  have p5 : (fs.drop kt ++ fs.take kt).reverse.Perm fs := (List.reverse_perm _).trans p3
  refine Pu.use (resolve_ct w kind n (fs.drop kt ++ fs.take kt).reverse (intsD hs) (heldV hs) (by omega) (fun f hf => ok.each f (p5.mem_iff.mp hf)) (by rw [p5.length_eq]; omega) (held_ct w hs n hhl (by omega))) (by assumption) F5 N5 (.cons (.str _ _) (.cons (.int _ _) (.cons (.list (N5 _ (.head _)).1 (InA.rd N5 (InA.sub (fun p hp => by simp only [List.mem_cons, List.mem_append, hp, true_or, or_true]) A5))) (.cons (In.rd N5 (In.sub (fun p hp => by simp only [List.mem_cons, List.mem_append, hp, true_or, or_true]) Ih)) .nil)))) (by omega) (by omega) ?_
  intro v6 h6 tk6 tl6 F6 N6 O6 I6
  (try simp only [List.cons_append, List.nil_append, List.append_assoc] at N6)
  have e6 : resP kind (fs.drop kt ++ fs.take kt).reverse (heldV hs) n = toldP kind n fs hs := hperm _ p5
  rw [e6] at I6
  k_steps
  refine ne_rd (In.rd N6 (In.sub (fun p hp => by simp only [List.mem_cons, List.mem_append, hp, true_or, or_true]) I6)) (In.rd N6 (In.sub (fun p hp => by simp only [List.mem_cons, List.mem_append, hp, true_or, or_true]) It)) (shaped_pairs _) (shaped_pairs _) (by dsimp only; omega) (SeqAt.eqv_refl _ (SeqAt.canLay_of_shaped (shaped_pairs _))) ?_
  k_steps
  unfold Halt
  refine Pu.use (resolve_ct w kind n (fs.drop kt ++ fs.take kt) (intsD hs) (heldV hs) (by omega) (fun f hf => ok.each f (p3.mem_iff.mp hf)) (by rw [p3.length_eq]; omega) (held_ct w hs n hhl (by omega))) (by assumption) F6 N6 (.cons (.str _ _) (.cons (.int _ _) (.cons (.list (N6 (D3, listOf (List.toArray (fvs.drop kt ++ fvs.take kt)) 0) (by k_mem)).1 (InA.rd N6 (InA.sub (fun p hp => by simp only [List.mem_cons, List.mem_append, hp, true_or, or_true]) A3))) (.cons (In.rd N6 (In.sub (fun p hp => by simp only [List.mem_cons, List.mem_append, hp, true_or, or_true]) Ih)) .nil)))) (by omega) (by omega) ?_
  intro v7 h7 tk7 tl7 F7 N7 O7 I7
  (try simp only [List.cons_append, List.nil_append, List.append_assoc] at N7)
  have e7 : resP kind (fs.drop kt ++ fs.take kt) (heldV hs) n = toldP kind n fs hs := hperm _ p3
  rw [e7] at I7
  k_steps
  refine ne_rd (In.rd N7 (In.sub (fun p hp => by simp only [List.mem_cons, List.mem_append, hp, true_or, or_true]) I7)) (In.rd N7 (In.sub (fun p hp => by simp only [List.mem_cons, List.mem_append, hp, true_or, or_true]) It)) (shaped_pairs _) (shaped_pairs _) (by dsimp only; omega) (SeqAt.eqv_refl _ (SeqAt.canLay_of_shaped (shaped_pairs _))) ?_
  k_steps
  unfold Halt
  exact h _ _ kt hkl ⟨_, tl, R, us9, nu9, ns9, o1, o2, o3, o4, o5, _, _, _, F7, ⟨News.sub N7 (by walk_at "nsub"), hI9, hR9, d1, ⟨_, d2⟩, ⟨_, d3⟩, ⟨_, d4⟩, ⟨_, d5⟩, f1, f2, f3, f4, f5, aR, a3, a4, a5⟩, HasS.of rfl rfl, HasI.of rfl rfl, by rfl, If, by rfl, Ih, by rfl, It, HasI.of rfl rfl⟩
end
theorem again_NW4 {m A e Q E s} (h : wpAny m A (execs [] e) Q E s) : wpAny m A (execs [] e) Q E s := by first | (walk1; fail) | exact h
/- NW5 -/
theorem stop5 {m A x0 x1 x2 x3 x4 x5 x6 x7 x8 x9 x10 x11 x12 x13 x14 x15 x16 Q E s} (h : Halt (wpAny m A (execs (Stmt.If (Expr.Compare (Expr.Call x0 [x1, x2, x3, Expr.Constant x4 x5 x6] x7 x8) x9 x10 x11) x12 x13 x14 :: x15) x16) Q E s)) : wpAny m A (execs (Stmt.If (Expr.Compare (Expr.Call x0 [x1, x2, x3, Expr.Constant x4 x5 x6] x7 x8) x9 x10 x11) x12 x13 x14 :: x15) x16) Q E s := h
section
 local macro_rules | `(tactic| walk_at "execs cons") => `(tactic| with_reducible refine stop5 ?_)
def firstF (kind : Str) (fs : List (List (Int × Int))) (hs : List Int) (i t j : Nat) : Int × Int := ((atP fs i).take (min j t)).foldl (fun a p => joinP kind p a) (restP kind (heldV hs i))
def secondF (kind : Str) (fs : List (List (Int × Int))) (i t j : Nat) : Int × Int := (((atP fs i).take j).drop t).foldl (joinP kind) (0, 0)
theorem atP_get (fs : List (List (Int × Int))) (i j : Nat) (hj : j < fs.length) (hi : i < fs[j].length) : (atP fs i)[j]? = some fs[j][i] := by
  simp [atP, hj, List.getD_eq_getElem?_getD, hi]
theorem first_lt (kind : Str) (fs : List (List (Int × Int))) (hs : List Int) (i t j : Nat) (hj : j < fs.length) (hi : i < fs[j].length) (h : j < t) : firstF kind fs hs i t (j + 1) = joinP kind fs[j][i] (firstF kind fs hs i t j) := by
  unfold firstF
  rw [Nat.min_eq_left (by omega), Nat.min_eq_left (by omega), List.take_add_one, atP_get fs i j hj hi, List.foldl_append]
  rfl
theorem second_lt (kind : Str) (fs : List (List (Int × Int))) (i t j : Nat) (h : j < t) : secondF kind fs i t (j + 1) = secondF kind fs i t j := by
  unfold secondF
  rw [List.drop_of_length_le (by rw [List.length_take]; omega), List.drop_of_length_le (by rw [List.length_take]; omega)]
theorem first_ge (kind : Str) (fs : List (List (Int × Int))) (hs : List Int) (i t j : Nat) (h : ¬ j < t) : firstF kind fs hs i t (j + 1) = firstF kind fs hs i t j := by
  unfold firstF
  rw [Nat.min_eq_right (by omega), Nat.min_eq_right (by omega)]
theorem second_ge (kind : Str) (fs : List (List (Int × Int))) (i t j : Nat) (hj : j < fs.length) (hi : i < fs[j].length) (h : ¬ j < t) : secondF kind fs i t (j + 1) = joinP kind (secondF kind fs i t j) fs[j][i] := by
  unfold secondF
  have hl : t ≤ ((atP fs i).take j).length := by rw [List.length_take, atP, List.length_map]; omega
  rw [List.take_add_one, atP_get fs i j hj hi, List.drop_append_of_le_length hl, List.foldl_append]
  rfl
theorem first_0 (kind : Str) (fs : List (List (Int × Int))) (hs : List Int) (i t : Nat) : firstF kind fs hs i t 0 = restP kind (heldV hs i) := by simp [firstF]
theorem second_0 (kind : Str) (fs : List (List (Int × Int))) (i t : Nat) : secondF kind fs i t 0 = (0, 0) := by simp [secondF]
structure StrOk (p : Int × Int) : Prop where
  l : -8 < p.1 ∧ p.1 < 8
  h : -8 < p.2 ∧ p.2 < 8
  le : p.1 ≤ p.2
  eq : strengthText p.1 p.2 = lawLetters p.1 p.2
set_option maxHeartbeats 4000000 in
theorem law_p5 {w : World} {dp un : Nat} {gd : Option (List Code)} {fr : Option (List Env)} {s : Shared} {h₀ : Heap} {L : Addr} {oc : Value} {od : Option Addr} {osl : Array (Option Value)} {name qual : Str} {params : Arguments} {body : List Stmt} {scope : Scope} {dV kV doc pm cdv ct cx : Value} {an : Option Addr} {fx : Addr}
    {kind : Str} {n : Nat} {fs : List (List (Int × Int))} {hs : List Int} {tn : Nat} {Q : Flow → Shared → Prop}
    (ho : (Mine.hd.heap_39 w.params).lookup 172 = some ⟨oc, od, .func (fnOf name qual params body scope dV kV doc pm an cdv ct), osl⟩)
    (G : Gd w h₀) (hd : dp + 8 < recursionLimit) (hu : un + 8 * 8 + 64 < cLine) (ok : LawOk kind n fs hs) (htn : tn ≤ fs.length)
    (hj1 : ∀ i < n, joinP kind (firstF kind fs hs i tn fs.length) (secondF kind fs i tn fs.length) = placeP kind fs (heldV hs i) i) (hj2 : ∀ i < n, joinP kind (secondF kind fs i tn fs.length) (firstF kind fs hs i tn fs.length) = placeP kind fs (heldV hs i) i)
    (hst : ∀ i < n, StrOk (placeP kind fs (heldV hs i) i)) (V : InvB h₀ L kind n fs hs tn s.heap)
    (h : ∀ h' tk, InvA h₀ L kind n fs hs h' → wpAny (model PR w) (Ar dp un gd fr) (execs (body.drop 14) (envOfC qual scope L fx cx)) Q NoE { s with heap := h', toks := tk }) :
    wpAny (model PR w) (Ar dp un gd fr) (execs (body.drop 13) (envOfC qual scope L fx cx)) Q NoE s := by
  have X9 := G.k
  have e := ho.symm.trans (by k_is : (Mine.hd.heap_39 w.params).lookup 172 = some ⟨_, _, .func (fnOf _ _ _ _ _ _ _ _ _ _ _ _), _⟩)
  cases e
  obtain ⟨_, _, _, _, _, T9⟩ := G.t
  obtain ⟨m, tl, R, us, nu, ns, o1, o2, o3, o4, o5, vf, vh, vt, F, ⟨N, hI, hok, d1, ⟨t2, d2⟩, ⟨c3, d3⟩, ⟨c4, d4⟩, ⟨c5, d5⟩, f1, f2, f3, f4, f5, aR, a3, a4, a5⟩, ⟨tk1, hk1⟩, ⟨tk2, hk2⟩, hfe, If, hhe, Ih, hto, It, ⟨tk3, hk3⟩⟩ := V
  replace F := canon_fr _ F (psC hk1 (psC hk2 (psC hfe (psC hhe (psC hto (psC hk3 psN))))))
  dsimp only [List.drop] at h ⊢
  have hn6 := ok.n6
  have hn1 := ok.n1
  have hlen := ok.len
  have hhl := ok.hlen
  k_steps
  refine for_range0 (by assumption) (by assumption) (by assumption) (by omega) (fun i m nx => ∃ o3 c3, nx = (R, listOf (List.toArray us) nu) :: (L + 1 + 1 + 1 + 1 + 1, o5) :: (L + 1 + 1 + 1 + 1, o4) :: (L + 1 + 1 + 1, o3) :: (L + 1 + 1, o2) :: (L + 1, o1) :: tl ∧ o3.data = Data.cell c3 ∧ HasS m "kind" kind ∧ HasI m "many" fs.length ∧ Has m "feeds" vf ∧ Has m "held" vh ∧ Has m "told" vt ∧ HasI m "turn" tn)
    ⟨o3, c3, rfl, d3, HasS.of rfl rfl, HasI.of rfl rfl, rfl, rfl, rfl, HasI.of rfl rfl⟩ ?turn ?done
  case turn =>
    rintro i t m nx I oI hh tkh hi ⟨o3, c3, rfl, d3, ⟨tk1, hk1⟩, ⟨tk2, hk2⟩, hfe, hhe, hto, ⟨tk3, hk3⟩⟩ off F N
    replace F := canon_fr _ F (psC hk1 (psC hk2 (psC hfe (psC hhe (psC hto (psC hk3 psN))))))
    have y2 : @Ne Nat (L + 1 + 1 + 1) I := off (L + 1 + 1 + 1, o3) (by k_mem)
    have hx : (hs.map PyData.int)[((i : Int)).toNat]? = some (.int (heldV hs i)) := by simp [heldV, List.getD_eq_getElem?_getD, hhl, hi]
    have hx2 : 0 ≤ heldV hs i ∧ heldV hs i < 4 := getD_range ok.two i
    k_steps
    rename Obj => oX
    rename oX.data = _ => dX
    rename_i D2 _ _ _ _ _ _ _ _ _ _ hR F9 N9 _
    rename In _ _ (prP (restP kind (heldV hs i))) => I9
    refine for_range0 F9 N9 hR (by omega) (fun j m nx => (∀ p ∈ (I, oI) :: (R, listOf (List.toArray us) nu) :: (L + 1 + 1 + 1 + 1 + 1, o5) :: (L + 1 + 1 + 1 + 1, o4) :: (L + 1 + 1 + 1, oX) :: (L + 1 + 1, o2) :: (L + 1, o1) :: tl, p ∈ nx) ∧ ∃ v1 v2, In nx v1 (prP (firstF kind fs hs i tn j)) ∧ In nx v2 (prP (secondF kind fs i tn j)) ∧ Has m "first" v1 ∧ Has m "second" v2 ∧ HasS m "kind" kind ∧ HasI m "many" fs.length ∧ Has m "feeds" vf ∧ Has m "held" vh ∧ Has m "told" vt ∧ HasI m "turn" tn)
      ⟨(by walk_at "nsub"), _, _, In.sub (fun p hp => by simp only [List.mem_cons, List.mem_append, hp, true_or, or_true]) (first_0 kind fs hs i tn ▸ I9), second_0 kind fs i tn ▸ .tuple (.head _) (.cons (.int _ _) (.cons (.int _ _) .nil)), rfl, rfl, HasS.of rfl rfl, HasI.of rfl rfl, rfl, rfl, rfl, HasI.of rfl rfl⟩ ?turn2 ?done2
    case turn2 =>
      rintro j t m nx I2 oI2 h2 tkh2 hj ⟨hb, v1, v2, hv1, hv2, hfi, hse, ⟨tk1, hk1⟩, ⟨tk2, hk2⟩, hfe, hhe, hto, ⟨tk3, hk3⟩⟩ off2 F N
      replace F := canon_fr _ F (psC hfi (psC hse (psC hk1 (psC hk2 (psC hfe (psC hhe (psC hto (psC hk3 psN))))))))
      replace N : News _ _ _ ((I2, oI2) :: (I, oI) :: (R, listOf (List.toArray us) nu) :: (L + 1 + 1 + 1 + 1 + 1, o5) :: (L + 1 + 1 + 1 + 1, o4) :: (L + 1 + 1 + 1, oX) :: (L + 1 + 1, o2) :: (L + 1, o1) :: (tl ++ nx)) := News.sub N (by
        intro p hp
        rcases List.mem_cons.mp hp with e | hp
        · rw [e]; exact .head _
        · refine .tail _ ?_
          have hp2 : p ∈ ((I, oI) :: (R, listOf (List.toArray us) nu) :: (L + 1 + 1 + 1 + 1 + 1, o5) :: (L + 1 + 1 + 1 + 1, o4) :: (L + 1 + 1 + 1, oX) :: (L + 1 + 1, o2) :: (L + 1, o1) :: tl) ++ nx := by simpa using hp
          rcases List.mem_append.mp hp2 with z | z
          · exact hb p z
          · exact z)
      have hfl := ok.each _ (List.getElem_mem hj)
      have hx3 : (fs.map pairsD)[((j : Int)).toNat]? = some (pairsD fs[j]) := by simp [hj]
      have hx4 : (fs[j].map prP)[((i : Int)).toNat]? = some (prP fs[j][i]) := by simp [hfl, hi]
      k_steps
      · rename In tl _ (prP fs[j][i]) => hu
        rename Fr _ _ _ _ => F9
        rename News _ _ _ _ => N9
        refine Pu.use (join_ctP w kind fs[j][i] (firstF kind fs hs i tn j)) (by assumption) F9 N9 (.cons (.str _ _) (.cons (In.rd N9 (In.sub (fun p hp => by simp only [List.mem_cons, List.mem_append, hp, true_or, or_true]) hu)) (.cons (In.rd N9 (In.sub (fun p hp => by simp only [List.mem_cons, List.mem_append, hp, true_or, or_true]) hv1)) .nil))) (by omega) (by omega) ?_
        intro v8 h8 tk8 tl8 F8 N8 O8 I8
        (try simp only [List.cons_append, List.nil_append, List.append_assoc] at N8)
        k_steps
        rename News _ _ _ _ => N7
        have hlt : j < tn := by omega
        rw [← first_lt kind fs hs i tn j hj (by omega) hlt] at I8
        refine ⟨_, _, _, nx ++ tl8, rfl, by assumption, News.sub N7 (by walk_at "nsub"), List.forall_mem_append.mpr ⟨off2, O8 (I2, oI2) (by k_mem)⟩, (fun _ q => nomatch q), (fun p hp => List.mem_append_left _ (hb p hp)), _, _, In.sub (fun p hp => by simp only [List.mem_cons, List.mem_append, hp, true_or, or_true]) I8, ?_, by rfl, by rfl, HasS.of (by rfl) rfl, HasI.of (by rfl) rfl, by rfl, by rfl, by rfl, HasI.of (by rfl) rfl⟩
        rw [second_lt kind fs i tn j hlt]
        exact In.sub (fun p hp => by simp only [List.mem_cons, List.mem_append, hp, true_or, or_true]) hv2
      · rename In tl _ (prP fs[j][i]) => hu
        rename Fr _ _ _ _ => F9
        rename News _ _ _ _ => N9
        refine Pu.use (join_ctP w kind (secondF kind fs i tn j) fs[j][i]) (by assumption) F9 N9 (.cons (.str _ _) (.cons (In.rd N9 (In.sub (fun p hp => by simp only [List.mem_cons, List.mem_append, hp, true_or, or_true]) hv2)) (.cons (In.rd N9 (In.sub (fun p hp => by simp only [List.mem_cons, List.mem_append, hp, true_or, or_true]) hu)) .nil))) (by omega) (by omega) ?_
        intro v8 h8 tk8 tl8 F8 N8 O8 I8
        (try simp only [List.cons_append, List.nil_append, List.append_assoc] at N8)
        k_steps
        rename News _ _ _ _ => N7
        have hlt : ¬ j < tn := by omega
        rw [← second_ge kind fs i tn j hj (by omega) hlt] at I8
        refine ⟨_, _, _, nx ++ tl8, rfl, by assumption, News.sub N7 (by walk_at "nsub"), List.forall_mem_append.mpr ⟨off2, O8 (I2, oI2) (by k_mem)⟩, (fun _ q => nomatch q), (fun p hp => List.mem_append_left _ (hb p hp)), _, _, ?_, In.sub (fun p hp => by simp only [List.mem_cons, List.mem_append, hp, true_or, or_true]) I8, by rfl, by rfl, HasS.of (by rfl) rfl, HasI.of (by rfl) rfl, by rfl, by rfl, by rfl, HasI.of (by rfl) rfl⟩
        rw [first_ge kind fs hs i tn j hlt]
        exact In.sub (fun p hp => by simp only [List.mem_cons, List.mem_append, hp, true_or, or_true]) hv1
    case done2 =>
      rintro m nx h2 tkh2 ⟨hb, v1, v2, hv1, hv2, hfi, hse, ⟨tk1, hk1⟩, ⟨tk2, hk2⟩, hfe, hhe, hto, ⟨tk3, hk3⟩⟩ F N
      replace F := canon_fr _ F (psC hfi (psC hse (psC hk1 (psC hk2 (psC hfe (psC hhe (psC hto (psC hk3 psN))))))))
      replace N : News _ _ _ ((I, oI) :: (R, listOf (List.toArray us) nu) :: (L + 1 + 1 + 1 + 1 + 1, o5) :: (L + 1 + 1 + 1 + 1, o4) :: (L + 1 + 1 + 1, oX) :: (L + 1 + 1, o2) :: (L + 1, o1) :: (tl ++ nx)) := News.sub N (by
        intro p hp
        have hp2 : p ∈ ((I, oI) :: (R, listOf (List.toArray us) nu) :: (L + 1 + 1 + 1 + 1 + 1, o5) :: (L + 1 + 1 + 1 + 1, o4) :: (L + 1 + 1 + 1, oX) :: (L + 1 + 1, o2) :: (L + 1, o1) :: tl) ++ nx := by simpa using hp
        rcases List.mem_append.mp hp2 with z | z
        · exact hb p z
        · exact z)
      have hx5 : ((toldP kind n fs hs).map prP)[((i : Int)).toNat]? = some (prP (placeP kind fs (heldV hs i) i)) := by simp [resP, hi]
      k_steps
      refine Pu.use (join_ctP w kind (firstF kind fs hs i tn fs.length) (secondF kind fs i tn fs.length)) (by assumption) (by assumption) N (.cons (.str _ _) (.cons (In.rd N (In.sub (fun p hp => by simp only [List.mem_cons, List.mem_append, hp, true_or, or_true]) hv1)) (.cons (In.rd N (In.sub (fun p hp => by simp only [List.mem_cons, List.mem_append, hp, true_or, or_true]) hv2)) .nil))) (by omega) (by omega) ?_
      intro v8 h8 tk8 tl8 F8 N8 O8 I8
      (try simp only [List.cons_append, List.nil_append, List.append_assoc] at N8)
      rw [hj1 i hi] at I8
      k_steps
      rename In tl _ (prP (placeP kind fs (heldV hs i) i)) => hu
      refine ne_rd (In.rd N8 (In.sub (fun p hp => by simp only [List.mem_cons, List.mem_append, hp, true_or, or_true]) I8)) (In.rd N8 (In.sub (fun p hp => by simp only [List.mem_cons, List.mem_append, hp, true_or, or_true]) hu)) (shaped_pr _ _) (shaped_pr _ _) (by dsimp only; omega) (SeqAt.eqv_refl _ (SeqAt.canLay_of_shaped (shaped_pr _ _))) ?_
      k_steps
      refine Pu.use (join_ctP w kind (secondF kind fs i tn fs.length) (firstF kind fs hs i tn fs.length)) (by assumption) (by assumption) N8 (.cons (.str _ _) (.cons (In.rd N8 (In.sub (fun p hp => by simp only [List.mem_cons, List.mem_append, hp, true_or, or_true]) hv2)) (.cons (In.rd N8 (In.sub (fun p hp => by simp only [List.mem_cons, List.mem_append, hp, true_or, or_true]) hv1)) .nil))) (by omega) (by omega) ?_
      intro v7 h7 tk7 tl7 F7 N7 O7 I7
      (try simp only [List.cons_append, List.nil_append, List.append_assoc] at N7)
      rw [hj2 i hi] at I7
      k_steps
      clear hu
      rename In tl _ (prP (placeP kind fs (heldV hs i) i)) => hu
      refine ne_rd (In.rd N7 (In.sub (fun p hp => by simp only [List.mem_cons, List.mem_append, hp, true_or, or_true]) I7)) (In.rd N7 (In.sub (fun p hp => by simp only [List.mem_cons, List.mem_append, hp, true_or, or_true]) hu)) (shaped_pr _ _) (shaped_pr _ _) (by dsimp only; omega) (SeqAt.eqv_refl _ (SeqAt.canLay_of_shaped (shaped_pr _ _))) ?_
      k_steps
      unfold Halt
      clear hu
      rename In tl _ (prP (placeP kind fs (heldV hs i) i)) => hu
      have S := hst i hi
      refine Pu.useS (S.eq ▸ strength_text_ct w _ _ S.l S.h) (by assumption) F7 N7 (.cons (In.rd N7 (In.sub (fun p hp => by simp only [List.mem_cons, List.mem_append, hp, true_or, or_true]) hu)) .nil) (by omega) (by omega) ?_
      intro t6 h6 tk6 F6 N6
      k_steps
      unfold Halt
      clear hu
      rename In tl _ (prP (placeP kind fs (heldV hs i) i)) => hu
      refine Pu.useS (law_letters_ct w _ _ S.l S.h S.le) (by assumption) F6 N6 (.cons (In.rd N6 (In.sub (fun p hp => by simp only [List.mem_cons, List.mem_append, hp, true_or, or_true]) hu)) .nil) (by omega) (by omega) ?_
      intro t5 h5 tk5 F5 N5
      k_steps
      · exfalso
        first
          | exact absurd rfl (by assumption)
          | simp_all
      · exact ⟨_, _, _, (R, listOf (List.toArray us) nu) :: (L + 1 + 1 + 1 + 1 + 1, o5) :: (L + 1 + 1 + 1 + 1, o4) :: (L + 1 + 1 + 1, oX) :: (L + 1 + 1, o2) :: (L + 1, o1) :: tl, rfl, F5, News.sub N5 (by walk_at "nsub"), ne_map off (by (simp only [List.map_cons, List.map_append, List.map_nil, List.cons_append, List.nil_append, List.append_assoc, List.append_nil])), (fun _ q => nomatch q), oX, _, rfl, dX, HasS.of (by rfl) rfl, HasI.of (by rfl) rfl, by rfl, by rfl, by rfl, HasI.of (by rfl) rfl⟩
  case done =>
    rintro m nx hh tkh ⟨o3, c3, rfl, d3, ⟨tk1, hk1⟩, ⟨tk2, hk2⟩, hfe, hhe, hto, ⟨tk3, hk3⟩⟩ F N
    replace F := canon_fr _ F (psC hk1 (psC hk2 (psC hfe (psC hhe (psC hto (psC hk3 psN))))))
    k_steps
    unfold Halt
    exact h _ _ ⟨_, tl, R, us, nu, ns, o1, o2, o3, o4, o5, _, _, _, F, ⟨N, hI, hok, d1, ⟨_, d2⟩, ⟨_, d3⟩, ⟨_, d4⟩, ⟨_, d5⟩, f1, f2, f3, f4, f5, aR, a3, a4, a5⟩, HasS.of rfl rfl, HasI.of rfl rfl, by rfl, If, by rfl, Ih, by rfl, It⟩
end
theorem again_NW5 {m A e Q E s} (h : wpAny m A (execs [] e) Q E s) : wpAny m A (execs [] e) Q E s := by first | (walk1; fail) | exact h
/- NW6 -/
theorem stop6 {m A x0 x1 x2 x3 x4 Q E s} (h : Halt (wpAny m A (execs (Stmt.Assign [Expr.Name (PySem.Str.ofString "weak") x0] x1 x2 :: x3) x4) Q E s)) : wpAny m A (execs (Stmt.Assign [Expr.Name (PySem.Str.ofString "weak") x0] x1 x2 :: x3) x4) Q E s := h
local macro_rules | `(tactic| walk_at "binaryOp Mult ref int") => `(tactic| (refine halt ?_))
section
 local macro_rules | `(tactic| walk_at "execs cons") => `(tactic| with_reducible refine stop6 ?_)
theorem rep_fold (v : Value) : ∀ (k : Nat) (a : Array Value), List.foldl (fun x1 x2 => x1 ++ x2) a (List.replicate k #[v]) = a ++ (List.replicate k v).toArray
  | 0, a => by simp
  | k + 1, a => by
    rw [List.replicate_succ, List.foldl_cons, rep_fold v k, Array.append_assoc, List.replicate_succ]
    congr 1
    simp
theorem mul_rep {w : World} {A : Around} {s : Shared} {E : Value → Shared → Prop} {h₀ : Heap} {L l : Addr} {m : Str → Option Value} {news : List (Addr × Obj)} {v : Value} {k n : Nat} {u : Tok} {Q : Value → Shared → Prop} (F : Fr h₀ L s.heap m) (N : News h₀ L s.heap news)
    (hl : (l, listOf (List.toArray [v]) k) ∈ news) (hn : n ≤ 1000) (h : ∀ D h', Fr h₀ L h' m → News h₀ L h' ((D, listOf (List.toArray (List.replicate n v)) 0) :: news) → Q (.ref D) { s with heap := h' }) :
    wpAny (model PR w) A (binaryOp .Mult (.ref l) (.int (n : Int) u)) Q E s := by
  refine mul_list F N (N _ hl).1 (by omega) (by omega) (by simp; omega) fun h' F' N' => h _ h' F' ?_
  have e : List.foldl (fun x1 x2 => x1 ++ x2) #[] (List.replicate (if (#[v] : Array Value).isEmpty = true then 0 else ((n : Int)).toNat) #[v]) = (List.replicate n v).toArray := by
    rw [rep_fold]; simp
  rw [e] at N'
  exact N'
theorem ints_rep (n : Nat) (t : Tok) : Ints (List.replicate n (.int 3 t)) (List.replicate n 3) := by
  induction n with
  | zero => exact .nil
  | succ n ih => exact .cons (.int 3 t) ih
set_option maxHeartbeats 4000000 in
theorem law_p6 {w : World} {dp un : Nat} {gd : Option (List Code)} {fr : Option (List Env)} {s : Shared} {h₀ : Heap} {L : Addr} {oc : Value} {od : Option Addr} {osl : Array (Option Value)} {name qual : Str} {params : Arguments} {body : List Stmt} {scope : Scope} {dV kV doc pm cdv ct cx : Value} {an : Option Addr} {fx : Addr}
    {kind : Str} {n : Nat} {fs : List (List (Int × Int))} {hs : List Int} {Q : Flow → Shared → Prop}
    (ho : (Mine.hd.heap_39 w.params).lookup 172 = some ⟨oc, od, .func (fnOf name qual params body scope dV kV doc pm an cdv ct), osl⟩)
    (G : Gd w h₀) (hd : dp + 8 < recursionLimit) (hu : un + 8 * 8 + 64 < cLine) (ok : LawOk kind n fs hs) (V : InvA h₀ L kind n fs hs s.heap)
    (h : ∀ h' tk, InvA h₀ L kind n fs hs h' → wpAny (model PR w) (Ar dp un gd fr) (execs (body.drop 15) (envOfC qual scope L fx cx)) Q NoE { s with heap := h', toks := tk }) :
    wpAny (model PR w) (Ar dp un gd fr) (execs (body.drop 14) (envOfC qual scope L fx cx)) Q NoE s := by
  have X9 := G.k
  have e := ho.symm.trans (by k_is : (Mine.hd.heap_39 w.params).lookup 172 = some ⟨_, _, .func (fnOf _ _ _ _ _ _ _ _ _ _ _ _), _⟩)
  cases e
  obtain ⟨_, _, _, _, _, T9⟩ := G.t
  obtain ⟨m, tl, R, us, nu, ns, o1, o2, o3, o4, o5, vf, vh, vt, F, ⟨N, hI, hok, d1, ⟨t2, d2⟩, ⟨c3, d3⟩, ⟨c4, d4⟩, ⟨c5, d5⟩, f1, f2, f3, f4, f5, aR, a3, a4, a5⟩, ⟨tk1, hk1⟩, ⟨tk2, hk2⟩, hfe, If, hhe, Ih, hto, It⟩ := V
  replace F := canon_fr _ F (psC hk1 (psC hk2 (psC hfe (psC hhe (psC hto psN)))))
  dsimp only [List.drop] at h ⊢
  have hn6 := ok.n6
  have hn1 := ok.n1
  have hlen := ok.len
  have hhl := ok.hlen
  k_steps
  unfold Halt
  refine Pu.use (resolve_ct w kind n fs .none (fun _ => 3) (by omega) ok.each (by omega) (fun i _ => held_none_ct w i)) (by assumption) F N (.cons (.str _ _) (.cons (.int _ _) (.cons (In.rd N (In.sub (fun p hp => by simp only [List.mem_cons, List.mem_append, hp, true_or, or_true]) If)) (.cons .none .nil)))) (by omega) (by omega) ?_
  intro v6 h6 tk6 tl6 F6 N6 O6 I6
  (try simp only [List.cons_append, List.nil_append, List.append_assoc] at N6)
  k_steps
  unfold Halt
  rename News _ _ _ _ => N5
  refine mul_rep (by assumption) N5 (.head _) (by omega) ?_
  intro D4 h4 F4 N4
  k_steps
  unfold Halt
  refine Pu.use (resolve_ct w kind n fs (intsD (List.replicate n 3)) (fun _ => 3) (by omega) ok.each (by omega) (fun i hi => held_list_ct w _ i 3 (by omega) (by omega) (by simp [hi]))) (by assumption) F4 N4 (.cons (.str _ _) (.cons (.int _ _) (.cons (In.rd N4 (In.sub (fun p hp => by simp only [List.mem_cons, List.mem_append, hp, true_or, or_true]) If)) (.cons (dt_int_data (N4 _ (.head _)).1 (ints_rep n _)) .nil)))) (by omega) (by omega) ?_
  intro v3 h3 tk3 tl3 F3 N3 O3 I3
  (try simp only [List.cons_append, List.nil_append, List.append_assoc] at N3)
  k_steps
  refine ne_rd (In.rd N3 (In.sub (fun p hp => by simp only [List.mem_cons, List.mem_append, hp, true_or, or_true]) I6)) (In.rd N3 (In.sub (fun p hp => by simp only [List.mem_cons, List.mem_append, hp, true_or, or_true]) I3)) (shaped_pairs _) (shaped_pairs _) (by dsimp only; omega) (SeqAt.eqv_refl _ (SeqAt.canLay_of_shaped (shaped_pairs _))) ?_
  k_steps
  unfold Halt
  exact h _ _ ⟨_, tl, R, us, nu, ns, o1, o2, o3, o4, o5, _, _, _, F3, ⟨News.sub N3 (by walk_at "nsub"), hI, hok, d1, ⟨_, d2⟩, ⟨_, d3⟩, ⟨_, d4⟩, ⟨_, d5⟩, f1, f2, f3, f4, f5, aR, a3, a4, a5⟩, HasS.of rfl rfl, HasI.of rfl rfl, by rfl, If, by rfl, Ih, by rfl, It⟩
end
theorem again_NW6 {m A e Q E s} (h : wpAny m A (execs [] e) Q E s) : wpAny m A (execs [] e) Q E s := by first | (walk1; fail) | exact h
/- NW7 -/
theorem shaped_drives (ns : List Int) (a b : Int) : SeqAt.shaped (driveD ns a b) = true :=
  shaped_list (k := 1) (by omega) (fun c => by rw [driveBit_eq]; simp [PyData.canLay0, PyData.canLayAll0]) (fun c => by rw [driveBit_eq]; simp [PyData.depth, PyData.depthAll]) ns
theorem tab_drive {c a b : Int} {d : PyData} (hc : 0 ≤ c ∧ c < 4) (h : [prD (-a) (-a), prD b b, prD 0 0, prD (-a) b][c.toNat]? = some d) : d = driveBit c a b := by
  have : c = 0 ∨ c = 1 ∨ c = 2 ∨ c = 3 := by omega
  rcases this with rfl | rfl | rfl | rfl <;> (cases h; rfl)
set_option maxHeartbeats 4000000 in
theorem law_p7 {w : World} {dp un : Nat} {gd : Option (List Code)} {fr : Option (List Env)} {s : Shared} {h₀ : Heap} {L : Addr} {oc : Value} {od : Option Addr} {osl : Array (Option Value)} {name qual : Str} {params : Arguments} {body : List Stmt} {scope : Scope} {dV kV doc pm cdv ct cx : Value} {an : Option Addr} {fx : Addr}
    {kind : Str} {n : Nat} {fs : List (List (Int × Int))} {hs : List Int} {Q : Flow → Shared → Prop}
    (ho : (Mine.hd.heap_39 w.params).lookup 172 = some ⟨oc, od, .func (fnOf name qual params body scope dV kV doc pm an cdv ct), osl⟩)
    (G : Gd w h₀) (hd : dp + 8 < recursionLimit) (hu : un + 8 * 8 + 64 < cLine) (ok : LawOk kind n fs hs) (V : InvA h₀ L kind n fs hs s.heap)
    (h : ∀ h' tk, Grow h₀ h' → Q (.ret (.bool true)) { s with heap := h', toks := tk }) :
    wpAny (model PR w) (Ar dp un gd fr) (execs (body.drop 15) (envOfC qual scope L fx cx)) Q NoE s := by
  have X9 := G.k
  have e := ho.symm.trans (by k_is : (Mine.hd.heap_39 w.params).lookup 172 = some ⟨_, _, .func (fnOf _ _ _ _ _ _ _ _ _ _ _ _), _⟩)
  cases e
  obtain ⟨_, _, _, _, _, T9⟩ := G.t
  obtain ⟨m, tl, R, us, nu, ns, o1, o2, o3, o4, o5, vf, vh, vt, F, ⟨N, hI, hok, d1, ⟨t2, d2⟩, ⟨c3, d3⟩, ⟨c4, d4⟩, ⟨c5, d5⟩, f1, f2, f3, f4, f5, aR, a3, a4, a5⟩, ⟨tk1, hk1⟩, ⟨tk2, hk2⟩, hfe, If, hhe, Ih, hto, It⟩ := V
  obtain ⟨ha, hvs, hn, rfl, hhm, hhA⟩ := in_list Ih
  replace F := canon_fr _ F (psC hk1 (psC hk2 (psC hfe (psC hhe (psC hto psN)))))
  dsimp only [List.drop]
  have hn6 := ok.n6
  have hn1 := ok.n1
  have hlen := ok.len
  have hhl := ok.hlen
  have hvl := hhA.len
  rw [List.length_map] at hvl
  k_steps
  rename News _ _ _ _ => N9
  rename Fr _ _ _ _ => F9
  obtain ⟨us9, nu9, p4, p5, wk, hk, tw, th, tlx, N9, htx, e4, e5⟩ : ∃ us nu p4 p5 wk hk t t' tlx, News h₀ L _ ((R, listOf (List.toArray us) nu) :: (L + 1 + 1 + 1 + 1 + 1, p5) :: (L + 1 + 1 + 1 + 1, p4) :: (L + 1 + 1 + 1, o3) :: (L + 1 + 1, o2) :: (L + 1, o1) :: tlx) ∧ (∀ p ∈ tl, p ∈ tlx) ∧ p4.data = Data.cell (some (.int wk t)) ∧ p5.data = Data.cell (some (.int hk t')) := ⟨_, _, _, _, _, _, _, _, _, N9, (fun p hp => List.mem_append_left _ hp), by assumption, by assumption⟩
  have hhx := htx _ hhm
  refine comp_list (by assumption) N9 (N9 (ha, listOf (List.toArray hvs) hn) (by simp only [List.mem_cons, hhx, or_true])).1 (i64 (by omega)) [(ha, listOf (List.toArray hvs) hn)] (.inr ⟨_, .head _⟩) (fun p hp => by rw [List.mem_singleton.mp hp]; simp only [List.mem_cons, hhx, or_true]) (fun k ys nx => ∃ tl2, nx = (R, listOf (List.toArray us9) nu9) :: (L + 1 + 1 + 1 + 1 + 1, p5) :: (L + 1 + 1 + 1 + 1, p4) :: (L + 1 + 1 + 1, o3) :: (L + 1 + 1, o2) :: (L + 1, o1) :: (tlx ++ tl2) ∧ InA tl2 ys ((hs.take k).map fun c => driveBit c wk hk)) ⟨[], by rw [List.append_nil], .nil⟩ ?turn ?done
  case turn =>
    rintro k v ys nx C mc oL D nD I oI h2 tk2' hkk hv ⟨tl2, rfl, hA⟩ hlen' hkp F hm N off
    replace N : News h₀ C h2 (W3 L oL D ys nD I oI ++ _) := N
    replace off : Off _ (W3 L oL D ys nD I oI) := off
    change wpAny _ _ _ (EltEnd h₀ C (W3 L oL D ys nD I oI) _ _ _ _) _ _
    have hk' : k < hs.length := by omega
    have hv2 := hhA.at hv (d := .int hs[k]) (by simp [hk'])
    have h4 := ok.two _ (List.getElem_mem hk')
    cases hv2
    replace F := canon_fr _ F (psC hm psN)
    simp only [List.cons_append, List.nil_append] at N
    k_steps
    (all_goals first | (show Addr; exact (0 : Nat)) | (show Str; exact Str.ofString "") | (show Value; exact Value.none) | (show List (Str × Addr); exact []) | skip)
    unfold Halt
    rename News _ _ _ _ => N8
    k_dflt (refine' sub_tab (ds := [prD _ _, prD _ _, prD _ _, prD _ _]) 5 4 N8 (by k_mem) (by simp only [List.take_succ_cons, List.take_zero]; rfl) (by walk_at "dt") (by rfl) h4 (by decide) ?_)
    intro v9 d9 hd9 hI9
    obtain rfl := tab_drive h4 hd9
    obtain ⟨t5, N5, O5, I5⟩ : ∃ t5, News h₀ C _ (t5 ++ (W3 L oL D ys nD I oI ++ ((R, listOf (List.toArray us9) nu9) :: (L + 1 + 1 + 1 + 1 + 1, p5) :: (L + 1 + 1 + 1 + 1, p4) :: (L + 1 + 1 + 1, o3) :: (L + 1 + 1, o2) :: (L + 1, o1) :: (tlx ++ tl2)))) ∧ Off t5 (W3 L oL D ys nD I oI) ∧ In t5 v9 (driveBit hs[k] wk hk) := ⟨[_, _, _, _, _], N8, (by
      intro p hp q hq
      simp only [List.mem_cons, List.not_mem_nil, or_false] at hp hq
      rcases hp with rfl | rfl | rfl | rfl | rfl <;> rcases hq with rfl | rfl | rfl <;> k_ne), hI9⟩
    refine ⟨_, _, _, (R, listOf (List.toArray us9) nu9) :: (L + 1 + 1 + 1 + 1 + 1, p5) :: (L + 1 + 1 + 1 + 1, p4) :: (L + 1 + 1 + 1, o3) :: (L + 1 + 1, o2) :: (L + 1, o1) :: (tlx ++ (tl2 ++ t5)), rfl, by assumption, News.sub N5 (by walk_at "nsub"), off_map off (tl := t5) (fun q hq p hp => O5 p hp q hq) (by (simp only [List.map_cons, List.map_append, List.map_nil, List.cons_append, List.nil_append, List.append_assoc, List.append_nil])), (fun p hp => by rw [List.mem_singleton.mp hp]; simp only [List.mem_cons, List.mem_append, hhx, true_or, or_true]), tl2 ++ t5, rfl, ?_⟩
    rw [take_snoc _ hk']
    exact inA_snoc hA I5
  case done =>
    rintro ys nx D nD h2 tk2' ⟨tl2, rfl, hA⟩ hlen' hkp F N off
    rw [hvl, List.take_length] at hA
    k_steps
    unfold Halt
    refine Pu.use (law_made_ct w hs (by omega) ok.two) (by assumption) F N (.cons (.list (N (ha, listOf (List.toArray hvs) hn) (by simp only [List.mem_cons, List.mem_append, hhx, true_or, or_true])).1 (InA.rd N (InA.sub (fun p hp => by simp only [List.mem_cons, List.mem_append, htx p hp, true_or, or_true]) hhA))) .nil) (by omega) (by omega) ?_
    intro v6 h6 tk6 tl6 F6 N6 O6 I6
    (try simp only [List.cons_append, List.nil_append, List.append_assoc] at N6)
    k_steps
    unfold Halt
    refine Pu.use (drive_ct w hs wk hk (by omega) ok.two) (by assumption) F6 N6 (.cons (In.rd N6 (In.sub (fun p hp => by simp only [List.mem_cons, List.mem_append, hp, true_or, or_true]) I6)) (.cons (.int _ _) (.cons (.int _ _) .nil))) (by omega) (by omega) ?_
    intro v5 h5 tk5 tl5 F5 N5 O5 I5
    (try simp only [List.cons_append, List.nil_append, List.append_assoc] at N5)
    k_steps
    refine eq_rd (In.rd N5 (In.sub (fun p hp => by simp only [List.mem_cons, List.mem_append, hp, true_or, or_true]) I5)) (.list (N5 (D, listOf (List.toArray ys) nD) (by k_mem)).1 (InA.rd N5 (InA.sub (fun p hp => by simp only [List.mem_cons, List.mem_append, hp, true_or, or_true]) hA))) (shaped_drives _ _ _) (shaped_drives _ _ _) (by dsimp only; omega) (SeqAt.eqv_refl _ (SeqAt.canLay_of_shaped (shaped_drives _ _ _))) ?_
    k_steps
    exact h _ _ (Fr.keep F5)
/- NPL -/
def rk (t : Bool) (p : Int) : Int := 2 * p.natAbs + (if t then (if p < 0 then 1 else 0) else (if p > 0 then 1 else 0))
theorem rk_inj {t : Bool} {p q : Int} (h : rk t p = rk t q) : p = q := by
  unfold rk at h
  cases t <;> simp only [Bool.false_eq_true, if_false, if_true] at h <;> (split at h <;> split at h <;> omega)
theorem rk_b (t : Bool) (p : Int) : 2 * absF p ≤ rk t p ∧ rk t p ≤ 2 * absF p + 1 := by
  have e : absF p = p.natAbs := by unfold absF; split <;> omega
  rw [e]; unfold rk
  have k : ∀ x : Int, x ≤ x + 1 ∧ x + 1 ≤ x + 1 ∧ x ≤ x + 0 ∧ x + 0 ≤ x + 1 := by intro x; omega
  obtain ⟨k1, k2, k3, k4⟩ := k (2 * p.natAbs)
  cases t <;> simp only [Bool.false_eq_true, if_false, if_true] <;> split <;> exact ⟨by assumption, by assumption⟩
theorem two_le {a b : Int} (h : a > b) : 2 * b + 1 ≤ 2 * a := by omega
theorem mx1 (n : Int) : 2 * n + 1 = max (2 * n + 1) (2 * n + 0) := (Int.max_eq_left (by omega)).symm
theorem mx2 (n : Int) : 2 * n + 1 = max (2 * n + 0) (2 * n + 1) := (Int.max_eq_right (by omega)).symm
theorem abs_two {p q : Int} (e : absF p = absF q) : p = q ∨ p = - q := by
  unfold absF at e
  split at e <;> split at e
  · exact .inl (Int.neg_inj.mp e)
  · exact .inr (by rw [← e, Int.neg_neg])
  · exact .inr e
  · exact .inl e
theorem rk_s (t : Bool) (p q : Int) : rk t (strongerF p q t) = max (rk t p) (rk t q) := by
  have hp := rk_b t p
  have hq := rk_b t q
  unfold strongerF
  by_cases h1 : absF p > absF q
  · rw [if_pos h1]; exact (Int.max_eq_left (Int.le_trans hq.2 (Int.le_trans (two_le h1) hp.1))).symm
  · rw [if_neg h1]
    by_cases h2 : absF q > absF p
    · rw [if_pos h2]; exact (Int.max_eq_right (Int.le_trans hp.2 (Int.le_trans (two_le h2) hq.1))).symm
    · rw [if_neg h2]
      clear hp hq
      rcases abs_two (Int.le_antisymm (Int.not_lt.mp h1) (Int.not_lt.mp h2)) with rfl | rfl
      · cases t <;> simp [minF, maxF]
      · clear h1 h2
        have key : ∀ n : Int, (n = (q.natAbs : Int)) → rk t (-q) = 2 * n + (if t then (if -q < 0 then 1 else 0) else (if -q > 0 then 1 else 0)) := by
          rintro n rfl; unfold rk; rw [Int.natAbs_neg]
        rcases Int.lt_trichotomy q 0 with h | rfl | h
        · have a1 : ¬ (-q < 0) := by omega
          have a2 : -q > 0 := by omega
          have a3 : ¬ q > 0 := by omega
          have a4 : q < -q := by omega
          have a5 : ¬ q > -q := by omega
          cases t <;> simp only [minF, maxF, rk, Int.natAbs_neg, Bool.false_eq_true, if_false, if_true, if_pos h, if_neg a1, if_pos a2, if_neg a3, if_pos a4, if_neg a5]
          · exact mx1 _
          · exact mx2 _
        · cases t <;> rfl
        · have a1 : -q < 0 := by omega
          have a2 : ¬ -q > 0 := by omega
          have a3 : ¬ q < 0 := by omega
          have a4 : ¬ q < -q := by omega
          have a5 : q > -q := by omega
          cases t <;> simp only [minF, maxF, rk, Int.natAbs_neg, Bool.false_eq_true, if_false, if_true, if_pos h, if_pos a1, if_neg a2, if_neg a3, if_neg a4, if_pos a5]
          · exact mx2 _
          · exact mx1 _
theorem rk_nn (t : Bool) (p : Int) : 0 ≤ rk t p := by
  have h := Int.natCast_nonneg p.natAbs
  have k : ∀ x : Int, 0 ≤ x → 0 ≤ 2 * x + 1 ∧ 0 ≤ 2 * x + 0 := by intro x; omega
  obtain ⟨k1, k2⟩ := k _ h
  unfold rk
  cases t <;> simp only [Bool.false_eq_true, if_false, if_true] <;> split <;> assumption
theorem s_comm (t : Bool) (p q : Int) : strongerF p q t = strongerF q p t := rk_inj (t := t) (by rw [rk_s, rk_s]; exact Int.max_comm _ _)
theorem s_assoc (t : Bool) (p q r : Int) : strongerF (strongerF p q t) r t = strongerF p (strongerF q r t) t := rk_inj (t := t) (by rw [rk_s, rk_s, rk_s, rk_s]; exact Int.max_assoc _ _ _)
theorem s_zero (t : Bool) (p : Int) : strongerF p 0 t = p := rk_inj (t := t) (by
  rw [rk_s]
  have h0 : rk t 0 = 0 := by cases t <;> rfl
  rw [h0]; exact Int.max_eq_left (rk_nn t p))
theorem s_zero' (t : Bool) (p : Int) : strongerF 0 p t = p := by rw [s_comm, s_zero]
theorem j_comm (k : Str) (p q : Int × Int) : joinP k p q = joinP k q p := by unfold joinP; rw [s_comm, s_comm (k == Str.ofString "wand")]
theorem j_assoc (k : Str) (p q r : Int × Int) : joinP k (joinP k p q) r = joinP k p (joinP k q r) := by unfold joinP; dsimp only; rw [s_assoc, s_assoc]
theorem j_zero (k : Str) (p : Int × Int) : joinP k p (0, 0) = p := by unfold joinP; dsimp only; rw [s_zero, s_zero]
theorem j_fold (k : Str) (a c : Int × Int) (l : List (Int × Int)) : joinP k a (l.foldl (joinP k) c) = l.foldl (joinP k) (joinP k a c) := by
  induction l generalizing c with
  | nil => rfl
  | cons x r ih => rw [List.foldl_cons, List.foldl_cons, ih, j_assoc]
theorem j_perm (k : Str) {l l' : List (Int × Int)} (h : l.Perm l') : ∀ a, l.foldl (joinP k) a = l'.foldl (joinP k) a := by
  induction h with
  | nil => exact fun _ => rfl
  | cons x _ ih => exact fun a => ih _
  | swap x y l => intro a; simp only [List.foldl_cons]; rw [j_assoc, j_comm k y x, ← j_assoc]
  | trans _ _ ih1 ih2 => exact fun a => (ih1 a).trans (ih2 a)
theorem plain_perm {kind : Str} {n : Nat} {fs : List (List (Int × Int))} {hs : List Int} (fs' : List (List (Int × Int))) (h : fs'.Perm fs) : toldP kind n fs' hs = toldP kind n fs hs := by
  unfold toldP resP
  refine List.map_congr_left fun i _ => ?_
  exact j_perm kind (h.map _) _
theorem plain_split {kind : Str} {fs : List (List (Int × Int))} {hs : List Int} {tn : Nat} (ht : tn ≤ fs.length) (i : Nat) : joinP kind (firstF kind fs hs i tn fs.length) (secondF kind fs i tn fs.length) = placeP kind fs (heldV hs i) i := by
  unfold firstF secondF placeP
  have hl : (atP fs i).length = fs.length := by rw [atP, List.length_map]
  rw [Nat.min_eq_right ht, ← hl, List.take_length, j_fold, j_zero]
  have e : (fun a p => joinP kind p a) = joinP kind := by funext a p; exact j_comm kind p a
  rw [e, ← List.foldl_append, List.take_append_drop]
/- the parts of strongerF, in ranks: small leaves only -/
theorem s_or (t : Bool) (p q : Int) : strongerF p q t = p ∨ strongerF p q t = q := by
  unfold strongerF
  split
  · exact .inl rfl
  · split
    · exact .inr rfl
    · cases t
      · show maxF p q = p ∨ maxF p q = q
        unfold maxF; split
        · exact .inr rfl
        · exact .inl rfl
      · show minF p q = p ∨ minF p q = q
        unfold minF; split
        · exact .inr rfl
        · exact .inl rfl
theorem s_rk (t : Bool) (p q : Int) : (strongerF p q t = p ∧ rk t q ≤ rk t p) ∨ (strongerF p q t = q ∧ rk t p ≤ rk t q) := by
  have h := rk_s t p q
  rcases s_or t p q with e | e <;> rw [e] at h
  · exact .inl ⟨e, h ▸ Int.le_max_right _ _⟩
  · exact .inr ⟨e, h ▸ Int.le_max_left _ _⟩
theorem rk_up (t : Bool) {p q : Int} (h : 0 ≤ p) (g : p < q) : rk t p < rk t q := by
  unfold rk; cases t <;> simp only [Bool.false_eq_true, if_false, if_true] <;> (repeat' split) <;> omega
theorem rk_dn (t : Bool) {p q : Int} (h : q ≤ 0) (g : p < q) : rk t q < rk t p := by
  unfold rk; cases t <;> simp only [Bool.false_eq_true, if_false, if_true] <;> (repeat' split) <;> omega
theorem rk_mid (t : Bool) {a b c : Int} (h : a < b) (g : b < c) : rk t b < rk t a ∨ rk t b < rk t c := by
  rcases Int.le_total 0 b with e | e
  · exact .inr (rk_up t e g)
  · exact .inl (rk_dn t e h)
theorem s_mono {t : Bool} {x x' y y' : Int} (h : x ≤ x') (g : y ≤ y') : strongerF x y t ≤ strongerF x' y' t := by
  have key : ∀ {a b c d : Int}, a ≤ b → b < c → c ≤ d → rk t a ≤ rk t c → rk t d ≤ rk t b → False := by
    intro a b c d h1 h2 h3 h4 h5
    have k1 : rk t b ≤ rk t c := by
      rcases Int.lt_or_eq_of_le h1 with e | e
      · rcases rk_mid t e h2 with q | q <;> omega
      · rw [← e]; exact h4
    have k2 : rk t c ≤ rk t b := by
      rcases Int.lt_or_eq_of_le h3 with e | e
      · rcases rk_mid t h2 e with q | q <;> omega
      · rw [e]; exact h5
    have := rk_inj (t := t) (Int.le_antisymm k1 k2)
    omega
  rcases s_rk t x y with ⟨e, q⟩ | ⟨e, q⟩ <;> rcases s_rk t x' y' with ⟨e', q'⟩ | ⟨e', q'⟩ <;> rw [e, e']
  · exact h
  · exact Int.not_lt.mp fun w => key g w h q q'
  · exact Int.not_lt.mp fun w => key h w g q q'
  · exact g
theorem s_tie {t u : Bool} (hk : t = true ∨ u = false) (a x : Int) : strongerF a x t ≤ strongerF a x u := by
  unfold strongerF
  split
  · exact Int.le_refl _
  · split
    · exact Int.le_refl _
    · cases t <;> cases u
      · exact Int.le_refl _
      · exact absurd hk (by simp)
      · show minF a x ≤ maxF a x
        unfold minF maxF
        split <;> split <;> omega
      · exact Int.le_refl _
theorem s_le {t u : Bool} (hk : t = true ∨ u = false) {a b x : Int} (h : a ≤ b) : strongerF a x t ≤ strongerF b x u :=
  Int.le_trans (s_mono h (Int.le_refl x)) (s_tie hk b x)
theorem s_in {t : Bool} {a x : Int} (h : -8 < a ∧ a < 8) (g : -8 < x ∧ x < 8) : -8 < strongerF a x t ∧ strongerF a x t < 8 := by
  rcases s_or t a x with e | e <;> rw [e] <;> assumption
/- one drive stays one: low end, high end -/
theorem j_ok {k : Str} {p q : Int × Int} (hp : DrvOk p) (hq : DrvOk q) : DrvOk (joinP k p q) := by
  obtain ⟨h1, h2, h3⟩ := hp
  obtain ⟨g1, g2, g3⟩ := hq
  have hk : (k != Str.ofString "wor") = true ∨ (k == Str.ofString "wand") = false := by
    by_cases e : k = Str.ofString "wor"
    · right; rw [e]; decide
    · left; simp [e]
  unfold joinP DrvOk
  dsimp only
  have e1 := s_or (k != Str.ofString "wor") p.1 q.1
  have e2 := s_or (k == Str.ofString "wand") p.2 q.2
  have e3 := Int.le_trans (s_mono (t := (k != Str.ofString "wor")) h1 g1) (s_tie hk p.2 q.2)
  generalize strongerF p.1 q.1 _ = a at *
  generalize strongerF p.2 q.2 _ = b at *
  omega
theorem fold_ok {k : Str} {l : List (Int × Int)} (hl : ∀ p ∈ l, DrvOk p) : ∀ {a : Int × Int}, DrvOk a → DrvOk (l.foldl (joinP k) a) := by
  induction l with
  | nil => exact fun h => h
  | cons x r ih => exact fun h => ih (fun p hp => hl p (.tail _ hp)) (j_ok h (hl x (.head _)))
theorem rest_ok (kind : Str) (held : Int) : DrvOk (restP kind held) := by
  unfold restP driveBitP
  (repeat' split) <;> (simp only [DrvOk]; omega)
theorem atP_ok {n : Nat} {fs : List (List (Int × Int))} (hl : ∀ f ∈ fs, f.length = n) (hd : ∀ f ∈ fs, ∀ p ∈ f, DrvOk p) {i : Nat} (hi : i < n) : ∀ p ∈ atP fs i, DrvOk p := by
  intro p hp
  obtain ⟨f, hf, rfl⟩ := List.mem_map.mp hp
  have hif : i < f.length := by rw [hl f hf]; exact hi
  rw [List.getD_eq_getElem?_getD, List.getElem?_eq_getElem hif]
  exact hd f hf _ (List.getElem_mem hif)
set_option maxRecDepth 100000 in
theorem str_all : ((List.range 15).all fun a => (List.range 15).all fun b => decide (((a : Int) - 7) ≤ ((b : Int) - 7) → strengthText ((a : Int) - 7) ((b : Int) - 7) = lawLetters ((a : Int) - 7) ((b : Int) - 7))) = true := by decide +kernel
theorem str_ok {p : Int × Int} (h : DrvOk p) : StrOk p := by
  obtain ⟨h1, h2, h3⟩ := h
  refine ⟨by omega, by omega, h1, ?_⟩
  have := List.all_eq_true.mp str_all (p.1 + 7).toNat (List.mem_range.mpr (by omega))
  have := List.all_eq_true.mp this (p.2 + 7).toNat (List.mem_range.mpr (by omega))
  have := of_decide_eq_true this
  rw [show (((p.1 + 7).toNat : Nat) : Int) - 7 = p.1 by omega, show (((p.2 + 7).toNat : Nat) : Int) - 7 = p.2 by omega] at this
  exact this h1
/- NPM -/
def foS (t : Bool) (fs : List Int) : Int := fs.foldl (fun a x => strongerF a x t) 0
theorem s_fold (t : Bool) (a c : Int) (l : List Int) : strongerF a (l.foldl (fun a x => strongerF a x t) c) t = l.foldl (fun a x => strongerF a x t) (strongerF a c t) := by
  induction l generalizing c with
  | nil => rfl
  | cons x r ih => rw [List.foldl_cons, List.foldl_cons, ih, s_assoc]
theorem foS_cons (t : Bool) (x : Int) (r : List Int) : foS t (x :: r) = strongerF x (foS t r) t := by
  unfold foS
  rw [List.foldl_cons, s_fold, s_zero', s_zero]
theorem any_big {fs : List Int} {K : Int} (h : maxAbs fs < absF K) : fs.any (· == K) = false := by
  rw [List.any_eq_false]
  intro y hy e
  have := maxAbs_le y hy
  rw [beq_iff_eq] at e
  rw [e] at this
  omega
theorem absF_abs (x : Int) : absF x = x.natAbs := by unfold absF; split <;> omega
theorem s_right {t : Bool} {p q : Int} (h : absF p < absF q) : strongerF p q t = q := by
  unfold strongerF; rw [if_neg (Int.not_lt.mpr (Int.le_of_lt h)), if_pos h]
theorem s_left {t : Bool} {p q : Int} (h : absF q < absF p) : strongerF p q t = p := by
  unfold strongerF; rw [if_pos h]
theorem s_even {t : Bool} {p q : Int} (h : absF p = absF q) : strongerF p q t = if t then minF p q else maxF p q := by
  unfold strongerF; rw [if_neg (by rw [h]; exact Int.lt_irrefl _), if_neg (by rw [h]; exact Int.lt_irrefl _)]
theorem abs_pm {c : Prop} [Decidable c] {M : Int} (h : 0 ≤ M) : absF (if c then -M else M) = M := by
  split <;> unfold absF <;> split <;> omega
theorem abs_pm' {c : Prop} [Decidable c] {M : Int} (h : 0 ≤ M) : absF (if c then M else -M) = M := by
  split <;> unfold absF <;> split <;> omega
theorem abs_or {x M : Int} (h : absF x = M) : x = M ∨ x = -M := by
  unfold absF at h; split at h <;> omega
theorem foS_low : ∀ fs : List Int, foS true fs = if fs.any (· == -maxAbs fs) then -maxAbs fs else maxAbs fs
  | [] => by simp [foS, maxAbs]
  | x :: r => by
    have ih := foS_low r
    have hn := maxAbs_nn r
    rw [foS_cons, ih, maxAbs, List.any_cons]
    rcases Int.lt_trichotomy (absF x) (maxAbs r) with q | q | q
    · rw [Int.max_eq_right (Int.le_of_lt q)]
      have hx : (x == -maxAbs r) = false := by
        rw [beq_eq_false_iff_ne]; rintro rfl
        have := abs_pm (c := True) hn
        rw [if_pos trivial] at this; omega
      rw [hx, Bool.false_or, s_right (by rw [abs_pm hn]; exact q)]
    · rw [Int.max_eq_right (Int.le_of_eq q), s_even (by rw [abs_pm hn]; exact q), if_pos rfl]
      rcases abs_or q with e | e
      · by_cases h0 : maxAbs r = 0
        · rw [e, h0]; simp [minF]
        · rw [show (x == -maxAbs r) = false by rw [beq_eq_false_iff_ne]; omega, Bool.false_or, e]
          split <;> unfold minF <;> split <;> omega
      · rw [show (x == -maxAbs r) = true by rw [beq_iff_eq]; exact e, Bool.true_or, if_pos rfl, e]
        split <;> unfold minF <;> split <;> omega
    · rw [Int.max_eq_left (Int.le_of_lt q), s_left (by rw [abs_pm hn]; exact q), any_big (fs := r) (K := -absF x) (by
        have := abs_pm (c := True) (absF_nn x)
        rw [if_pos trivial] at this; rw [this]; exact q), Bool.or_false]
      by_cases hx : x = -absF x
      · rw [if_pos (show (x == -absF x) = true by rw [beq_iff_eq]; exact hx)]; exact hx
      · rw [if_neg (show ¬ ((x == -absF x) = true) by rw [beq_iff_eq]; exact hx)]
        exact (abs_or rfl).resolve_right hx
theorem foS_high : ∀ fs : List Int, foS false fs = if fs.any (· == maxAbs fs) then maxAbs fs else -maxAbs fs
  | [] => by simp [foS, maxAbs]
  | x :: r => by
    have ih := foS_high r
    have hn := maxAbs_nn r
    rw [foS_cons, ih, maxAbs, List.any_cons]
    rcases Int.lt_trichotomy (absF x) (maxAbs r) with q | q | q
    · rw [Int.max_eq_right (Int.le_of_lt q)]
      have hx : (x == maxAbs r) = false := by
        rw [beq_eq_false_iff_ne]; rintro rfl
        have := abs_pm (c := False) hn
        rw [if_neg id] at this; omega
      rw [hx, Bool.false_or, s_right (by rw [abs_pm' hn]; exact q)]
    · rw [Int.max_eq_right (Int.le_of_eq q), s_even (by rw [abs_pm' hn]; exact q), if_neg Bool.false_ne_true]
      rcases abs_or q with e | e
      · rw [show (x == maxAbs r) = true by rw [beq_iff_eq]; exact e, Bool.true_or, if_pos rfl, e]
        split <;> unfold maxF <;> split <;> omega
      · by_cases h0 : maxAbs r = 0
        · rw [e, h0]; simp [maxF]
        · rw [show (x == maxAbs r) = false by rw [beq_eq_false_iff_ne]; omega, Bool.false_or, e]
          split <;> unfold maxF <;> split <;> omega
    · rw [Int.max_eq_left (Int.le_of_lt q), s_left (by rw [abs_pm' hn]; exact q), any_big (fs := r) (K := absF x) (by
        have := abs_pm (c := False) (absF_nn x)
        rw [if_neg id] at this; rw [this]; exact q), Bool.or_false]
      by_cases hx : x = absF x
      · rw [if_pos (show (x == absF x) = true by rw [beq_iff_eq]; exact hx)]; exact hx
      · rw [if_neg (show ¬ ((x == absF x) = true) by rw [beq_iff_eq]; exact hx)]
        exact (abs_or rfl).resolve_left hx
theorem any_some {fs : List Int} (h : maxAbs fs ≠ 0) : fs.any (· == maxAbs fs) = true ∨ fs.any (· == -maxAbs fs) = true := by
  have hne : fs ≠ [] := by rintro rfl; exact h rfl
  obtain ⟨x, hx, e⟩ := List.mem_map.mp (maxAbs_mem hne)
  rw [absF_abs] at e
  by_cases h0 : 0 ≤ x
  · left; exact List.any_eq_true.mpr ⟨x, hx, by rw [beq_iff_eq]; omega⟩
  · right; exact List.any_eq_true.mpr ⟨x, hx, by rw [beq_iff_eq]; omega⟩
theorem outF_eq (kind : Str) (fs : List Int) : outF kind fs = pairCode (foS (kind != Str.ofString "wor") fs) (foS (kind == Str.ofString "wand") fs) := by
  have hn := maxAbs_nn fs
  have hs := any_some (fs := fs)
  have hl := foS_low fs
  have hh := foS_high fs
  have hk : (kind == Str.ofString "wand") = true → (kind == Str.ofString "wor") = false := by
    intro e; rw [beq_iff_eq] at e; rw [e]; decide
  have hk2 : (kind != Str.ofString "wor") = !(kind == Str.ofString "wor") := rfl
  rw [hk2]
  unfold outF
  generalize (kind == Str.ofString "wand") = a at *
  generalize (kind == Str.ofString "wor") = o at *
  generalize fs.any (· == maxAbs fs) = u at *
  generalize fs.any (· == -maxAbs fs) = z at *
  generalize maxAbs fs = M at *
  have hs' : M = 0 ∨ u = true ∨ z = true := by
    by_cases e : M = 0
    · exact .inl e
    · exact .inr (hs e)
  have hk' : a = false ∨ o = false := by
    cases a
    · exact .inl rfl
    · exact .inr (hk rfl)
  clear hs hk
  have hx : ∀ b, foS b fs = (if b then (if z then -M else M) else (if u then M else -M)) := by
    intro b; cases b
    · exact hh
    · exact hl
  rw [hx, hx]
  clear hl hh hx
  unfold pairCode
  cases a <;> cases o <;> cases u <;> cases z <;> simp only [Bool.not_true, Bool.not_false, Bool.and_true, Bool.and_false, Bool.and_self, Bool.false_eq_true, if_true, if_false, or_false, or_true, or_self, reduceCtorEq] at hs' hk' ⊢ <;> (repeat' split) <;> first | rfl | omega
/- NPN -/
inductive Ch : List (Int × Int) → List Int → Prop
  | nil : Ch [] []
  | cons {p : Int × Int} {ps : List (Int × Int)} {e : Int} {fs : List Int} : e ∈ endsOf p → Ch ps fs → Ch (p :: ps) (e :: fs)
theorem ends_mem {p : Int × Int} {e : Int} (h : e ∈ endsOf p) : e = p.1 ∨ e = p.2 := by
  unfold endsOf at h
  split at h <;> simp at h <;> omega
theorem ends_lo (p : Int × Int) : p.1 ∈ endsOf p := by unfold endsOf; split <;> simp
theorem ends_hi (p : Int × Int) : p.2 ∈ endsOf p := by unfold endsOf; split <;> simp_all
theorem rows_iff (ps : List (Int × Int)) : ∀ (rows : List (List Int)) (r : List Int), r ∈ ps.foldl (fun rows p => expand rows (endsOf p)) rows ↔ ∃ r0 ∈ rows, ∃ fs, Ch ps fs ∧ r = r0 ++ fs := by
  induction ps with
  | nil =>
    intro rows r
    constructor
    · intro h; exact ⟨r, h, [], .nil, by simp⟩
    · rintro ⟨r0, h0, fs, hc, rfl⟩; cases hc; simpa using h0
  | cons p ps ih =>
    intro rows r
    rw [List.foldl_cons, ih]
    constructor
    · rintro ⟨r1, h1, fs, hc, rfl⟩
      unfold expand at h1
      obtain ⟨r0, h0, h1⟩ := List.mem_flatMap.mp h1
      obtain ⟨e, he, rfl⟩ := List.mem_map.mp h1
      exact ⟨r0, h0, e :: fs, .cons he hc, by simp⟩
    · rintro ⟨r0, h0, fs, hc, rfl⟩
      cases hc with
      | cons he hc =>
        rename_i e fs
        exact ⟨r0 ++ [e], List.mem_flatMap.mpr ⟨r0, h0, List.mem_map.mpr ⟨e, he, rfl⟩⟩, fs, hc, by simp⟩
theorem rows_mem (ps : List (Int × Int)) (r : List Int) : r ∈ rowsOf ps ↔ Ch ps r := by
  unfold rowsOf
  rw [rows_iff]
  constructor
  · rintro ⟨r0, h0, fs, hc, rfl⟩
    simp at h0
    rw [h0]; simpa using hc
  · intro h; exact ⟨[], by simp, r, h, by simp⟩
theorem ch_lo : ∀ ps : List (Int × Int), Ch ps (ps.map Prod.fst)
  | [] => .nil
  | p :: ps => .cons (ends_lo p) (ch_lo ps)
theorem ch_hi : ∀ ps : List (Int × Int), Ch ps (ps.map Prod.snd)
  | [] => .nil
  | p :: ps => .cons (ends_hi p) (ch_hi ps)
theorem fold_mono {t : Bool} {ps : List (Int × Int)} {fs : List Int} (hc : Ch ps fs) (hp : ∀ p ∈ ps, p.1 ≤ p.2) : ∀ {a b c : Int}, a ≤ b → b ≤ c →
    (ps.map Prod.fst).foldl (fun a x => strongerF a x t) a ≤ fs.foldl (fun a x => strongerF a x t) b ∧ fs.foldl (fun a x => strongerF a x t) b ≤ (ps.map Prod.snd).foldl (fun a x => strongerF a x t) c := by
  induction hc with
  | nil => exact fun h g => ⟨h, g⟩
  | cons he _ ih =>
    intro a b c h g
    have h1 := hp _ (.head _)
    have he := ends_mem he
    exact ih (fun p q => hp p (.tail _ q)) (s_mono h (by omega)) (s_mono g (by omega))
theorem fold_le {t u : Bool} (hk : t = true ∨ u = false) : ∀ (fs : List Int) {a b : Int}, a ≤ b → fs.foldl (fun a x => strongerF a x t) a ≤ fs.foldl (fun a x => strongerF a x u) b
  | [], _, _, h => h
  | _ :: r, _, _, h => fold_le hk r (s_le hk h)
theorem fold_pair (k : Str) : ∀ (ps : List (Int × Int)) (a : Int × Int), ps.foldl (joinP k) a = ((ps.map Prod.fst).foldl (fun a x => strongerF a x (k != Str.ofString "wor")) a.1, (ps.map Prod.snd).foldl (fun a x => strongerF a x (k == Str.ofString "wand")) a.2)
  | [], _ => rfl
  | p :: r, a => by rw [List.foldl_cons, fold_pair k r]; rfl
theorem found_mem {kind : Str} {ps : List (Int × Int)} {c : Int} : c ∈ foundOf kind ps ↔ ∃ fs, Ch ps fs ∧ outF kind fs = c := by
  unfold foundOf
  rw [List.mem_map]
  simp only [rows_mem]
theorem found_pos (kind : Str) (ps : List (Int × Int)) : 0 < (foundOf kind ps).length := by unfold foundOf; rw [List.length_map]; exact rowsOf_pos ps
theorem found_head (kind : Str) (ps : List (Int × Int)) : (foundOf kind ps).getD 0 0 ∈ foundOf kind ps := by
  rw [List.getD_eq_getElem?_getD, List.getElem?_eq_getElem (found_pos kind ps)]
  exact List.getElem_mem _
theorem law_all {kind : Str} {ps : List (Int × Int)} {c : Int} (h : ∀ b ∈ foundOf kind ps, b = c) : lawCode kind ps = c := by
  have hg := h _ (found_head kind ps)
  unfold lawCode
  rw [if_pos (List.count_eq_length.mpr fun b hb => hg.trans (h b hb).symm)]
  exact hg
theorem plain_code (kind : Str) (ps : List (Int × Int)) (hp : ∀ p ∈ ps, p.1 ≤ p.2) : pairCode (foS (kind != Str.ofString "wor") (ps.map Prod.fst)) (foS (kind == Str.ofString "wand") (ps.map Prod.snd)) = lawCode kind ps := by
  have hk : (kind != Str.ofString "wor") = true ∨ (kind == Str.ofString "wand") = false := by
    by_cases e : kind = Str.ofString "wor"
    · right; rw [e]; decide
    · left; simp [e]
  have hout : ∀ fs, outF kind fs = pairCode (foS (kind != Str.ofString "wor") fs) (foS (kind == Str.ofString "wand") fs) := outF_eq kind
  have hle : ∀ fs, foS (kind != Str.ofString "wor") fs ≤ foS (kind == Str.ofString "wand") fs := fun fs => fold_le hk fs (Int.le_refl 0)
  have hmo : ∀ t fs, Ch ps fs → foS t (ps.map Prod.fst) ≤ foS t fs ∧ foS t fs ≤ foS t (ps.map Prod.snd) := fun t fs hc => fold_mono hc hp (Int.le_refl 0) (Int.le_refl 0)
  generalize (kind != Str.ofString "wor") = t at *
  generalize (kind == Str.ofString "wand") = u at *
  have h1 := hout (ps.map Prod.fst)
  have h2 := hout (ps.map Prod.snd)
  have m1 := hle (ps.map Prod.fst)
  have m2 := hle (ps.map Prod.snd)
  by_cases c1 : 0 < foS t (ps.map Prod.fst)
  · rw [show pairCode (foS t (ps.map Prod.fst)) (foS u (ps.map Prod.snd)) = 1 by unfold pairCode; rw [if_pos c1]]
    refine (law_all fun b hb => ?_).symm
    obtain ⟨fs, hc, rfl⟩ := found_mem.mp hb
    have := (hmo t fs hc).1
    rw [hout]; unfold pairCode; rw [if_pos (by omega)]
  · by_cases c2 : foS u (ps.map Prod.snd) < 0
    · rw [show pairCode (foS t (ps.map Prod.fst)) (foS u (ps.map Prod.snd)) = 0 by unfold pairCode; rw [if_neg c1, if_pos c2]]
      refine (law_all fun b hb => ?_).symm
      obtain ⟨fs, hc, rfl⟩ := found_mem.mp hb
      have g1 := (hmo u fs hc).2
      have g2 := hle fs
      rw [hout]; unfold pairCode; rw [if_neg (by omega), if_pos (by omega)]
    · by_cases c3 : foS t (ps.map Prod.fst) = 0 ∧ foS u (ps.map Prod.snd) = 0
      · rw [show pairCode (foS t (ps.map Prod.fst)) (foS u (ps.map Prod.snd)) = 2 by unfold pairCode; rw [if_neg c1, if_neg c2, if_pos c3]]
        refine (law_all fun b hb => ?_).symm
        obtain ⟨fs, hc, rfl⟩ := found_mem.mp hb
        have g1 := (hmo u fs hc).2
        have g2 := hle fs
        have g3 := (hmo t fs hc).1
        rw [hout]; unfold pairCode; rw [if_neg (by omega), if_neg (by omega), if_pos (by omega)]
      · rw [show pairCode (foS t (ps.map Prod.fst)) (foS u (ps.map Prod.snd)) = 3 by unfold pairCode; rw [if_neg c1, if_neg c2, if_neg c3]]
        unfold lawCode
        split
        · rename_i hcount
          have hall := List.count_eq_length.mp hcount
          have q1 := hall _ (found_mem.mpr ⟨_, ch_lo ps, rfl⟩)
          have q2 := hall _ (found_mem.mpr ⟨_, ch_hi ps, rfl⟩)
          rw [h1] at q1
          rw [h2] at q2
          generalize (foundOf kind ps).getD 0 0 = g at *
          unfold pairCode at q1 q2
          (repeat' split at q1) <;> (repeat' split at q2) <;> omega
        · rfl
theorem plain_main {kind : Str} {n : Nat} {fs : List (List (Int × Int))} {hs : List Int} (ok : LawOk kind n fs hs) : codesOf (toldP kind n fs hs) = dueL kind fs hs n := by
  unfold codesOf toldP resP dueL
  rw [List.map_map]
  refine List.map_congr_left fun i hi => ?_
  have hi' : i < n := List.mem_range.mp hi
  have hp : ∀ p ∈ restP kind (heldV hs i) :: atP fs i, p.1 ≤ p.2 := by
    intro p hp
    rcases List.mem_cons.mp hp with e | hp
    · rw [e]; exact (rest_ok kind _).1
    · exact (atP_ok ok.each ok.drv hi' p hp).1
  rw [← plain_code kind _ hp]
  have e : placeP kind fs (heldV hs i) i = (restP kind (heldV hs i) :: atP fs i).foldl (joinP kind) (0, 0) := by
    rw [List.foldl_cons, j_comm kind (0, 0), j_zero]; rfl
  show pairCode (placeP kind fs (heldV hs i) i).1 (placeP kind fs (heldV hs i) i).2 = _
  rw [e, fold_pair]
  rfl
/- NZ -/
theorem law_walk {w : World} {dp un : Nat} {gd : Option (List Code)} {fr : Option (List Env)} {s : Shared} {h₀ : Heap} {L : Addr} {oc : Value} {od : Option Addr} {osl : Array (Option Value)} {name qual : Str} {params : Arguments} {body : List Stmt} {scope : Scope} {dV kV doc pm cdv ct cx : Value} {an : Option Addr} {fx : Addr}
    {ns : List Int} {m : Str → Option Value} {o1 o2 o3 o4 o5 : Obj} {sv : Value} {Q : Flow → Shared → Prop}
    (ho : (Mine.hd.heap_39 w.params).lookup 172 = some ⟨oc, od, .func (fnOf name qual params body scope dV kV doc pm an cdv ct), osl⟩)
    (G : Gd w h₀) (hd : dp + 8 < recursionLimit) (hu : un + 8 * 8 + 64 < cLine) (F : Fr h₀ L s.heap m) (hsv : Has m "script" sv) (hs : ScrAt h₀ sv ns) (hl : ns.length ≤ 63)
    (N : News h₀ L s.heap [(L + 1 + 1 + 1 + 1 + 1, o5), (L + 1 + 1 + 1 + 1, o4), (L + 1 + 1 + 1, o3), (L + 1 + 1, o2), (L + 1, o1)])
    (d1 : o1.data = Data.cell none) (d2 : o2.data = Data.cell none) (d3 : o3.data = Data.cell none) (d4 : o4.data = Data.cell none) (d5 : o5.data = Data.cell none)
    (h : ∀ h' tk, Grow h₀ h' → Q (.ret (.bool true)) { s with heap := h', toks := tk }) :
    wpAny (model PR w) (Ar dp un gd fr) (execs body (envOfC qual scope L fx cx)) Q NoE s := by
  refine law_p1 ho G hd hu F hsv hs hl N d1 d2 d3 d4 d5 fun h1 tk1 kind n many hk hn1 hn6 hm V => ?_
  refine law_p2 ho G hd hu hk hn1 hn6 hm V fun h2 tk2 fs hs ok V => ?_
  refine law_p3 ho G hd hu ok (plain_main ok) V fun h3 tk3 V => ?_
  refine law_p4 ho G hd hu ok (fun fs' hp => plain_perm fs' hp) V fun h4 tk4 tn ht V => ?_
  refine law_p5 ho G hd hu ok ht (fun i _ => plain_split ht i) (fun i _ => by rw [j_comm]; exact plain_split ht i) (fun i hi => str_ok (fold_ok (atP_ok ok.each ok.drv hi) (rest_ok kind _))) V fun h5 tk5 V => ?_
  refine law_p6 ho G hd hu ok V fun h6 tk6 V => ?_
  exact law_p7 ho G hd hu ok V fun h7 tk7 g => h h7 tk7 g
theorem cells5 {cm : Str → Option Value} {n1 n2 n3 n4 n5 : Str} {c1 c2 c3 c4 c5 a1 a2 a3 a4 a5 : Addr} {o1 o2 o3 o4 o5 : Obj} (Y : CellsAre cm [(n5, c5), (n4, c4), (n3, c3), (n2, c2), (n1, c1)] [(a5, o5), (a4, o4), (a3, o3), (a2, o2), (a1, o1)]) :
    o5.data = Data.cell (cm n5) ∧ o4.data = Data.cell (cm n4) ∧ o3.data = Data.cell (cm n3) ∧ o2.data = Data.cell (cm n2) ∧ o1.data = Data.cell (cm n1) := by
  cases Y with | cons h5 r =>
  cases r with | cons h4 r =>
  cases r with | cons h3 r =>
  cases r with | cons h2 r =>
  cases r with | cons h1 r => exact ⟨h5, h4, h3, h2, h1⟩
end Mine
local macro_rules | `(tactic| k_qdec) => `(tactic| decide +kernel)
set_option maxHeartbeats 4000000 in
theorem PySem.Challenge.cw_nn0300_01_holds : PySem.Challenge.rw_nn0300_01.Holds := by
  refine Mine.hd ?_
  k_go0
  (all_goals try k_fold)
  rename CellsAre _ _ _ => Y0
  rename News _ _ _ _ => N0
  rename Fr _ _ _ _ => F0
  rename IntsAre _ _ => hI0
  rename Heap.IsList _ _ _ => hL0
  rename Top _ _ _ _ _ _ => T0
  rename Frag.In _ _ => K0
  refine wpAny_mono (Mine.law_walk (ho := by k_is) ⟨K0, _, _, _, _, _, T0⟩ (by decide) (by decide) F0 rfl ⟨_, _, rfl, hL0, hI0⟩ (by omega) N0 ?d1 ?d2 ?d3 ?d4 ?d5 ?fin) (fun _ _ q => q) (fun _ _ q => q.elim)
  case d1 => exact (Mine.cells5 Y0).2.2.2.2
  case d2 => exact (Mine.cells5 Y0).2.2.2.1
  case d3 => exact (Mine.cells5 Y0).2.2.1
  case d4 => exact (Mine.cells5 Y0).2.1
  case d5 => exact (Mine.cells5 Y0).1
  case fin =>
    intro h' tk g
    refine ⟨.inl ⟨_, .bool true, [], rfl, ?hn, .bool true, ?hp, ?un⟩, g, rfl, by assumption⟩
    case hn => intro _; rfl
    case un => exact fun _ => ⟨.nil, fun _ q => nomatch q⟩
    case hp => exact postW_of rfl (by wtm_val) (by first | rfl | w_fin)
