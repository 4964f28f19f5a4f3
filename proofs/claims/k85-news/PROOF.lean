import PyProof.Rows.All
import Wide.All
import OpenK.AllK
import Wide.FinOn
import KE.KStateDown
import Lean
import HandS.Base
import HandS.Call
import HandS.Ends
import HandS.More
import HandS.Words
import HandS.WordsExc
import HandS.Defaults
import HandS.Head0
import HandS.Head1
import HandS.Head2
import HandS.HeadEnd
import HandS.HeadHook1
import HandS.HeadHook2
import HandS.HeadHook3
import HandS.ForMost
import HandS.Evl
import HandS.Walk
import HandS.IsInst
import HandS.Wide
import HandS.Style
import HandS.Strs
import HandS.TupLe
import HandS.Zip
import HandS.DictComp
import HandS.ListItems
import HandS.TupAny
import HandS.TupLen
import KE.GoesEnum
import KE.GoesZip
import KE.GoesMore
import KE.SortData
import KE.DataCmp
import PySem.Challenge.RW_roundpost_k85_whole_news_of_all_places
set_option Elab.async false
set_option linter.all false
set_option maxRecDepth 100000
set_option maxHeartbeats 0
namespace Hd
open PySem PySem.Spec PyProof.Rows L2
def top (i : Nat) : Stmt := PySem.Challenge.pw_roundpost_k85_whole_news_of_all_places.main.body.getD i (.Pass ⟨0, 0, 0, 0⟩)
def dd (x : Str) (i : Nat) : He.DefD := ⟨(x, none), x, x, defArgs (top i), defBody (top i), defScope (top i), [], []⟩
def fn : List He.DefD := [dd "is_integer" 12, dd "is_within" 13, dd "is_name" 14, dd "is_row_of" 15, dd "are_of" 16, dd "need_count" 17, dd "names_of_roads" 19, dd "other_end" 20, dd "steps_from" 21, dd "distance_rows" 22, dd "are_names" 28, dd "is_road" 29, dd "is_web_form" 30, dd "need_web" 31, dd "is_place" 32, dd "need_place" 33, dd "place_number" 34, dd "is_round" 35, dd "need_week" 36, dd "round_of" 37, dd "is_moment" 38, dd "need_moment" 39, dd "ends_by_road" 41, dd "news_places" 42, dd "arrivals_from" 43, dd "is_deed" 47, dd "words_of" 48, dd "are_unlike" 49, dd "is_script" 50, dd "last_moment" 51, dd "comings" 52, dd "happenings" 54, dd "places_of" 55, dd "rows_of" 58, dd "run_script" 59, dd "standing" 60, dd "moment_rows" 62, dd "known_at" 63, dd "need_start" 65, dd "arrivals" 66, dd "distance" 68, dd "_law_feed" 70, dd "_law_draw" 71, dd "_law_one" 72, dd "_law_mixed" 73, dd "_law_names" 74, dd "_law_web" 75, dd "_law_rota" 76, dd "_law_week" 77, dd "_law_moment" 78, dd "_law_round" 79, dd "_law_words" 80, dd "_law_script" 81, dd "_law_end" 82, dd "_law_count" 83, dd "_law_great_web" 84, dd "_law_sized_web" 85, dd "_law_told_all" 86, dd "_law_tree_right" 87, dd "_law_any_right" 88, dd "law" 89]
def fa : List He.Fa := [.glo "is_integer", .glo "is_within", .glo "is_name", .glo "is_row_of", .glo "are_of", .glo "need_count", .glo "names_of_roads", .glo "other_end", .glo "steps_from", .glo "distance_rows", .glo "are_names", .glo "is_road", .glo "is_web_form", .glo "need_web", .glo "is_place", .glo "need_place", .glo "place_number", .glo "is_round", .glo "need_week", .glo "round_of", .glo "is_moment", .glo "need_moment", .glo "ends_by_road", .glo "news_places", .glo "arrivals_from", .glo "is_deed", .glo "words_of", .glo "are_unlike", .glo "is_script", .glo "last_moment", .glo "comings", .glo "happenings", .glo "places_of", .glo "rows_of", .glo "run_script", .glo "standing", .glo "moment_rows", .glo "known_at", .glo "need_start", .glo "arrivals", .glo "distance", .glo "_law_feed", .glo "_law_draw", .glo "_law_one", .glo "_law_mixed", .glo "_law_names", .glo "_law_web", .glo "_law_rota", .glo "_law_week", .glo "_law_moment", .glo "_law_round", .glo "_law_words", .glo "_law_script", .glo "_law_end", .glo "_law_count", .glo "_law_great_web", .glo "_law_sized_web", .glo "_law_told_all", .glo "_law_tree_right", .glo "_law_any_right", .glo "law", .free "isinstance", .free "len", .free "all", .free "set", .free "tuple", .free "list", .free "dict", .free "sorted", .free "range", .free "enumerate", .free "zip", .free "int", .free "max", .free "min", .free "sum", .free "str", .free "bool", .str "LETTERS" "abcdefghijklmnopqrstuvwxyz", .str "SIGNS" "abcdefghijklmnopqrstuvwxyz0123456789", .int "MOST_SIGNS" 8, .int "MOST_PLACES" 10, .int "MOST_ROADS" 14, .int "MOST_ROUNDS" 4, .int "MOST_DAY" 1000000, .int "MOST_DEEDS" 20, .int "MOST_DAYS" 200, .glo "SIZES"]
def ts : List He.Tab := [(fun K => He.ga K "SIZES", ["tell", "deny", "ask"])]
def szs : List (Str × He.Dv) := [("tell", .int 4), ("deny", .int 4), ("ask", .int 5)]
abbrev R : PySem.W.OpenRow := PySem.W.OpenLaw.row PySem.Challenge.rw_roundpost_k85_whole_news_of_all_places
def obsM (g : Addr → Option Obj) : He.AlT × Bool := (He.obsT fa fn ts (He.frG g (He.asD g 2)), He.valsB (He.frG g (He.asD g 2)) (He.ga (He.frG g (He.asD g 2)) "SIZES") szs)
def hk : PySem.W.Hook where
  α := He.AlT × Bool
  obs := fun s => obsM s.heap.get?
  val := fun w => (He.valT fn ts w, true)
  says := fun w h => ∃ K : PySem.W.Frag, K.In h ∧ He.SaysT fa fn ts w K ∧ He.valsB K (He.ga K "SIZES") szs = true
  of := fun w s e => ⟨_, He.frG_in, congrArg (fun z : He.AlT × Bool => z.1) e, congrArg (fun z : He.AlT × Bool => z.2) e⟩
  keeps := fun _ _ _ ⟨K, hK, c⟩ k => ⟨K, PySem.W.Frag.In.keeps hK k, c⟩
def ob (s : PySem.W.SharedT) : He.AlT × Bool := obsM (HandSHeadRun.getT s)
theorem ob_eq (s : PySem.W.SharedT) : ob s = hk.obs s.abs := by
  have e : HandSHeadRun.getT s = s.abs.heap.get? := funext (HandSHeadRun.getT_eq s)
  show obsM (HandSHeadRun.getT s) = obsM s.abs.heap.get?
  rw [e]
def nm0 : List Str := ["PostError", "BadWeb", "BadPlace", "BadCount", "BadWeek", "BadMoment", "BadScript", "LETTERS", "SIGNS", "MOST_SIGNS", "is_integer", "is_within", "is_name", "is_row_of", "are_of", "need_count", "names_of_roads", "other_end", "steps_from", "distance_rows", "MOST_PLACES", "MOST_ROADS", "MOST_ROUNDS", "MOST_DAY", "are_names", "is_road", "is_web_form", "need_web", "is_place", "need_place"]
def nm1 : List Str := ["place_number", "is_round", "need_week", "round_of", "is_moment", "need_moment", "ends_by_road", "news_places", "arrivals_from", "MOST_DEEDS", "SIZES", "is_deed", "words_of", "are_unlike", "is_script", "last_moment", "comings", "question_rows", "happenings", "places_of", "MOST_DAYS", "rows_of", "run_script", "standing", "moment_rows", "known_at", "need_start", "arrivals", "distance", "_law_feed"]
def nm2 : List Str := ["_law_draw", "_law_one", "_law_mixed", "_law_names", "_law_web", "_law_rota", "_law_week", "_law_moment", "_law_round", "_law_words", "_law_script", "_law_end", "_law_count", "_law_great_web", "_law_sized_web", "_law_told_all", "_law_tree_right", "_law_any_right"]
def names : List Str := nm0 ++ nm1 ++ nm2
theorem run (w : World) : HandSHeadRun.RunEq R (PySem.W.view R.prog [89]) hk ob 4000 names w :=
  PySem.W.byRow2 "special-get-raises" (P := fun w => HandSHeadRun.RunEq R (PySem.W.view R.prog [89]) hk ob 4000 names w) (fun w os => by kernel_rfl) (fun w os => by kernel_rfl) w
end Hd
set_option Elab.async false
set_option linter.all false
set_option maxRecDepth 100000
set_option maxHeartbeats 2000000
/-! DL1: data without a heap, a small store of owned objects, and what it means that a heap holds them. -/
namespace DL
open PySem PySem.Spec PyProof.Rows L2
open Evl (Ex)

/-- tux: a tuple whose object bears no dict -/
inductive D where
  | non | bl (b : Bool) | int (i : Int) | str (x : Str)
  | tup (xs : List D) | tux (xs : List D) | lst (xs : List D) | sq (xs : List D)
  | dK (kvs : List (Key × D)) | dT (kvs : List (List Key × D))
/-- what a slot holds: data, or the k-th owned object -/
inductive W where
  | val (d : D) | own (k : Nat)
/-- an owned object -/
inductive M where
  | ml (xs : List D) | mK (kvs : List (Key × D)) | mT (kvs : List (List Key × D))

mutual
inductive Rep (K : PySem.W.Frag) (G : Hp) : V → D → Prop
  | non : Rep K G .non .non
  | bl (b : Bool) : Rep K G (.bl b) (.bl b)
  | int (i : Int) : Rep K G (.int i) (.int i)
  | str (x : Str) : Rep K G (.str x) (.str x)
  | tup {a : Addr} {vs : List V} {xs : List D} : G a = some (.tup vs) → Reps K G vs xs → Rep K G (.ref a) (.tup xs)
  | tux {a : Addr} {o : Obj} {vs : List V} {xs : List D} : G a = some (.frz o (.tup vs)) → o.cls = .type "tuple" → o.dict = none → Reps K G vs xs → Rep K G (.ref a) (.tux xs)
  | lst {a : Addr} {vs : List V} {xs : List D} : G a = some (.lst vs) → Reps K G vs xs → Rep K G (.ref a) (.lst xs)
  | sq {a : Addr} {vs : List V} {xs : List D} : SqL K G a vs → Reps K G vs xs → Rep K G (.ref a) (.sq xs)
  | dK {a : Addr} {kvs : List (Key × V)} {ds : List (Key × D)} : G a = some (.dK kvs) → RepK K G kvs ds → Rep K G (.ref a) (.dK ds)
  | dT {a : Addr} {kvs : List (List Key × V)} {ds : List (List Key × D)} : G a = some (.dT kvs) → RepT K G kvs ds → Rep K G (.ref a) (.dT ds)
inductive Reps (K : PySem.W.Frag) (G : Hp) : List V → List D → Prop
  | nil : Reps K G [] []
  | cons {v : V} {d : D} {vs : List V} {ds : List D} : Rep K G v d → Reps K G vs ds → Reps K G (v :: vs) (d :: ds)
inductive RepK (K : PySem.W.Frag) (G : Hp) : List (Key × V) → List (Key × D) → Prop
  | nil : RepK K G [] []
  | cons {k : Key} {v : V} {d : D} {vs : List (Key × V)} {ds : List (Key × D)} : Rep K G v d → RepK K G vs ds → RepK K G ((k, v) :: vs) ((k, d) :: ds)
inductive RepT (K : PySem.W.Frag) (G : Hp) : List (List Key × V) → List (List Key × D) → Prop
  | nil : RepT K G [] []
  | cons {k : List Key} {v : V} {d : D} {vs : List (List Key × V)} {ds : List (List Key × D)} : Rep K G v d → RepT K G vs ds → RepT K G ((k, v) :: vs) ((k, d) :: ds)
end

section
variable {K : PySem.W.Frag} {G G' : Hp}
mutual
theorem Rep.mono (e : Ex G G') : ∀ {v : V} {d : D}, Rep K G v d → Rep K G' v d
  | _, _, .non => .non
  | _, _, .bl b => .bl b
  | _, _, .int i => .int i
  | _, _, .str x => .str x
  | _, _, .tup h r => .tup (e _ _ h) (Reps.mono e r)
  | _, _, .tux h h1 h2 r => .tux (e _ _ h) h1 h2 (Reps.mono e r)
  | _, _, .lst h r => .lst (e _ _ h) (Reps.mono e r)
  | _, _, .sq h r => .sq (Evl.ex_l e h) (Reps.mono e r)
  | _, _, .dK h r => .dK (e _ _ h) (RepK.mono e r)
  | _, _, .dT h r => .dT (e _ _ h) (RepT.mono e r)
theorem Reps.mono (e : Ex G G') : ∀ {v : List V} {d : List D}, Reps K G v d → Reps K G' v d
  | _, _, .nil => .nil
  | _, _, .cons a b => .cons (Rep.mono e a) (Reps.mono e b)
theorem RepK.mono (e : Ex G G') : ∀ {v : List (Key × V)} {d : List (Key × D)}, RepK K G v d → RepK K G' v d
  | _, _, .nil => .nil
  | _, _, .cons a b => .cons (Rep.mono e a) (RepK.mono e b)
theorem RepT.mono (e : Ex G G') : ∀ {v : List (List Key × V)} {d : List (List Key × D)}, RepT K G v d → RepT K G' v d
  | _, _, .nil => .nil
  | _, _, .cons a b => .cons (Rep.mono e a) (RepT.mono e b)
end

/-- d is a tuple of xs (tux: of whose object more is known) -/
def TupD (d : D) (xs : List D) : Prop := d = .tup xs ∨ d = .tux xs
theorem Rep.tupD {v : V} {d : D} {xs : List D} (r : Rep K G v d) (h : TupD d xs) : ∃ a vs, v = .ref a ∧ Rd G a (.tup vs) ∧ Reps K G vs xs := by
  rcases h with rfl | rfl
  · cases r with
    | tup h1 h2 => exact ⟨_, _, rfl, .inl h1, h2⟩
  · cases r with
    | tux h1 h2 h3 h4 => exact ⟨_, _, rfl, .inr ⟨_, h1⟩, h4⟩
/-! ### lists of values -/
theorem Reps.length : ∀ {vs : List V} {ds : List D}, Reps K G vs ds → vs.length = ds.length
  | _, _, .nil => rfl
  | _, _, .cons _ b => congrArg Nat.succ b.length
theorem Reps.append : ∀ {vs us : List V} {ds es : List D}, Reps K G vs ds → Reps K G us es → Reps K G (vs ++ us) (ds ++ es)
  | _, _, _, _, .nil, h => h
  | _, _, _, _, .cons a b, h => .cons a (b.append h)
theorem Reps.one {v : V} {d : D} (h : Rep K G v d) : Reps K G [v] [d] := .cons h .nil
theorem Reps.get : ∀ {vs : List V} {ds : List D} {i : Nat} {d : D}, Reps K G vs ds → ds[i]? = some d → ∃ v, vs[i]? = some v ∧ Rep K G v d
  | _, _, _, _, .nil, e => by simp at e
  | _, _, 0, _, .cons a _, e => by simp at e; subst e; exact ⟨_, rfl, a⟩
  | _, _, i + 1, d, .cons _ b, e => by
    obtain ⟨v, h1, h2⟩ := Reps.get (i := i) (d := d) b (by simpa using e)
    exact ⟨v, by simpa using h1, h2⟩
theorem Reps.getV : ∀ {vs : List V} {ds : List D} {i : Nat} {v : V}, Reps K G vs ds → vs[i]? = some v → ∃ d, ds[i]? = some d ∧ Rep K G v d
  | _, _, _, _, .nil, e => by simp at e
  | _, _, 0, _, .cons a _, e => by simp at e; subst e; exact ⟨_, rfl, a⟩
  | _, _, i + 1, d, .cons _ b, e => by
    obtain ⟨v, h1, h2⟩ := Reps.getV (i := i) (v := d) b (by simpa using e)
    exact ⟨v, by simpa using h1, h2⟩
theorem Reps.set : ∀ {vs : List V} {ds : List D} (i : Nat) {v : V} {d : D}, Reps K G vs ds → Rep K G v d → Reps K G (vs.set i v) (ds.set i d)
  | _, _, _, _, _, .nil, _ => .nil
  | _, _, 0, _, _, .cons _ b, h => .cons h b
  | _, _, i + 1, _, _, .cons a b, h => .cons a (Reps.set i b h)
theorem Reps.take : ∀ {vs : List V} {ds : List D} (i : Nat), Reps K G vs ds → Reps K G (vs.take i) (ds.take i)
  | _, _, 0, _ => .nil
  | _, _, _ + 1, .nil => .nil
  | _, _, i + 1, .cons a b => .cons a (Reps.take i b)
theorem Reps.drop : ∀ {vs : List V} {ds : List D} (i : Nat), Reps K G vs ds → Reps K G (vs.drop i) (ds.drop i)
  | _, _, 0, h => h
  | _, _, _ + 1, .nil => .nil
  | _, _, i + 1, .cons _ b => Reps.drop i b
theorem Reps.eraseIdx : ∀ {vs : List V} {ds : List D} (i : Nat), Reps K G vs ds → Reps K G (vs.eraseIdx i) (ds.eraseIdx i)
  | _, _, _, .nil => .nil
  | _, _, 0, .cons _ b => b
  | _, _, i + 1, .cons a b => .cons a (Reps.eraseIdx i b)
theorem Reps.dropLast {vs : List V} {ds : List D} (h : Reps K G vs ds) : Reps K G vs.dropLast ds.dropLast := by
  rw [List.dropLast_eq_take, List.dropLast_eq_take, h.length]
  exact h.take _
theorem Reps.cut {vs : List V} {ds : List D} (lo hi : Option Int) (h : Reps K G vs ds) : Reps K G (cutV vs lo hi) ((ds.drop (HT.sIx ds.length 0 lo)).take (HT.sIx ds.length ds.length hi - HT.sIx ds.length 0 lo)) := by
  unfold cutV
  rw [h.length]
  exact (h.drop _).take _
/-- lists of plain data -/
def dS (x : Str) : D := .str x
theorem Reps.strs : ∀ {vs : List V} {xs : List Str}, Reps K G vs (xs.map D.str) → vs = xs.map V.str
  | _, [], .nil => rfl
  | _, x :: r, .cons a b => by
    cases a
    rw [List.map_cons, Reps.strs b]
theorem Reps.ints : ∀ {vs : List V} {xs : List Int}, Reps K G vs (xs.map D.int) → vs = xs.map V.int
  | _, [], .nil => rfl
  | _, x :: r, .cons a b => by
    cases a
    rw [List.map_cons, Reps.ints b]
theorem Reps.bls : ∀ {vs : List V} {xs : List Bool}, Reps K G vs (xs.map D.bl) → vs = xs.map V.bl
  | _, [], .nil => rfl
  | _, x :: r, .cons a b => by
    cases a
    rw [List.map_cons, Reps.bls b]
theorem reps_strs (xs : List Str) : Reps K G (xs.map V.str) (xs.map D.str) := by
  induction xs with
  | nil => exact .nil
  | cons x r ih => exact .cons (.str x) ih
theorem RepK.length : ∀ {vs : List (Key × V)} {ds : List (Key × D)}, RepK K G vs ds → vs.length = ds.length
  | _, _, .nil => rfl
  | _, _, .cons _ b => congrArg Nat.succ b.length
theorem RepT.length : ∀ {vs : List (List Key × V)} {ds : List (List Key × D)}, RepT K G vs ds → vs.length = ds.length
  | _, _, .nil => rfl
  | _, _, .cons _ b => congrArg Nat.succ b.length
end

/-! ### what stands at an owned address; slots -/
section
variable (K : PySem.W.Frag) (G : Hp)
def MRep (o : HO) : M → Prop
  | .ml xs => ∃ vs, o = .lst vs ∧ Reps K G vs xs
  | .mK ds => ∃ kvs, o = .dK kvs ∧ RepK K G kvs ds
  | .mT ds => ∃ kvs, o = .dT kvs ∧ RepT K G kvs ds
def RepW (A : List Addr) (v : V) : W → Prop
  | .val d => Rep K G v d
  | .own k => ∃ a, A[k]? = some a ∧ v = .ref a
inductive RepWs (A : List Addr) : List V → List W → Prop
  | nil : RepWs A [] []
  | cons {v : V} {w : W} {vs : List V} {ws : List W} : RepW K G A v w → RepWs A vs ws → RepWs A (v :: vs) (w :: ws)
end
abbrev DS := List (Option W)

/-- the heap H holds: the data of G, the owned objects at A -/
structure Con (K : PySem.W.Frag) (G H : Hp) (A : List Addr) (μ : List M) : Prop where
  gh : Ex G H
  len : A.length = μ.length
  mem : ∀ (k : Nat) (a : Addr) (m : M), A[k]? = some a → μ[k]? = some m → ∃ o, H a = some o ∧ MRep K G o m
  nd : A.Nodup
  ga : ∀ a ∈ A, G a = none
/-- what may have happened -/
structure Step (G H : Hp) (A : List Addr) (G' H' : Hp) (A' : List Addr) : Prop where
  g : Ex G G'
  h : ∀ a o, H a = some o → a ∉ A → H' a = some o
  a : ∃ t, A' = A ++ t ∧ ∀ x ∈ t, H x = none
  f : ∀ x o, G' x = some o → G x = some o ∨ H x = none
structure SlotsR (K : PySem.W.Frag) (G : Hp) (A : List Addr) (σ : L2.St) (δ : DS) : Prop where
  len : σ.length = δ.length
  get : ∀ (i : Nat) (w : W), δ[i]? = some (some w) → ∃ v, σ[i]? = some (some v) ∧ RepW K G A v w

section
variable {K : PySem.W.Frag} {G H G1 H1 G2 H2 G' H' : Hp} {A A1 A2 A' : List Addr} {μ μ1 μ' : List M} {σ : L2.St} {δ : DS} {v : V} {w : W}
theorem MRep.mono (e : Ex G G') {o : HO} : ∀ {m : M}, MRep K G o m → MRep K G' o m
  | .ml _, ⟨vs, h, r⟩ => ⟨vs, h, r.mono e⟩
  | .mK _, ⟨vs, h, r⟩ => ⟨vs, h, r.mono e⟩
  | .mT _, ⟨vs, h, r⟩ => ⟨vs, h, r.mono e⟩
theorem RepW.mono (e : Ex G G') (p : ∃ t, A' = A ++ t) : ∀ {w : W}, RepW K G A v w → RepW K G' A' v w
  | .val _, h => Rep.mono e h
  | .own k, ⟨a, h, q⟩ => by
    obtain ⟨t, rfl⟩ := p
    refine ⟨a, ?_, q⟩
    rw [List.getElem?_append_left (List.getElem?_eq_some_iff.mp h).1]
    exact h
theorem RepWs.mono (e : Ex G G') (p : ∃ t, A' = A ++ t) : ∀ {vs : List V} {ws : List W}, RepWs K G A vs ws → RepWs K G' A' vs ws
  | _, _, .nil => .nil
  | _, _, .cons a b => .cons (a.mono e p) (b.mono e p)
theorem RepWs.length : ∀ {vs : List V} {ws : List W}, RepWs K G A vs ws → vs.length = ws.length
  | _, _, .nil => rfl
  | _, _, .cons _ b => congrArg Nat.succ b.length
theorem RepWs.get : ∀ {vs : List V} {ws : List W} {i : Nat} {w : W}, RepWs K G A vs ws → ws[i]? = some w → ∃ v, vs[i]? = some v ∧ RepW K G A v w
  | _, _, _, _, .nil, e => by simp at e
  | _, _, 0, _, .cons a _, e => by simp at e; subst e; exact ⟨_, rfl, a⟩
  | _, _, i + 1, d, .cons _ b, e => by
    obtain ⟨v, h1, h2⟩ := RepWs.get (i := i) (w := d) b (by simpa using e)
    exact ⟨v, by simpa using h1, h2⟩
theorem Step.refl : Step G H A G H A := ⟨Ex.refl _, fun _ _ h _ => h, ⟨[], by simp, fun _ h => nomatch h⟩, fun _ _ h => .inl h⟩
theorem Step.pre (s : Step G H A G' H' A') : ∃ t, A' = A ++ t := let ⟨t, e, _⟩ := s.a; ⟨t, e⟩
theorem Step.back (c1 : Con K G1 H1 A1 μ1) (s : Step G H A G1 H1 A1) {x : Addr} (h : H1 x = none) : H x = none := by
  cases q : H x with
  | none => rfl
  | some o =>
    by_cases hx : x ∈ A
    · obtain ⟨t, e, _⟩ := s.a
      have hx1 : x ∈ A1 := by rw [e]; exact List.mem_append_left _ hx
      obtain ⟨k, hk, ek⟩ := List.getElem_of_mem hx1
      obtain ⟨o', h1, _⟩ := c1.mem k x (μ1[k]'(by rw [← c1.len]; exact hk)) (by rw [List.getElem?_eq_getElem hk, ek]) (List.getElem?_eq_getElem _)
      rw [h] at h1; cases h1
    · have := s.h x o q hx
      rw [h] at this; cases this
theorem Step.trans (c1 : Con K G1 H1 A1 μ1) (s : Step G H A G1 H1 A1) (s' : Step G1 H1 A1 G2 H2 A2) : Step G H A G2 H2 A2 := by
  obtain ⟨t, e, ht⟩ := s.a
  obtain ⟨t', e', ht'⟩ := s'.a
  refine ⟨s.g.trans s'.g, fun a o h hA => ?_, ⟨t ++ t', by rw [e', e, List.append_assoc], fun x hx => ?_⟩, fun x o h => ?_⟩
  · refine s'.h a o (s.h a o h hA) fun hm => ?_
    rw [e] at hm
    rcases List.mem_append.mp hm with z | z
    · exact hA z
    · rw [ht a z] at h; cases h
  · rcases List.mem_append.mp hx with z | z
    · exact ht x z
    · exact s.back c1 (ht' x z)
  · rcases s'.f x o h with z | z
    · exact s.f x o z
    · exact .inr (s.back c1 z)
theorem SlotsR.mono (e : Ex G G') (p : ∃ t, A' = A ++ t) (h : SlotsR K G A σ δ) : SlotsR K G' A' σ δ := ⟨h.len, fun i w q => let ⟨v, a, b⟩ := h.get i w q; ⟨v, a, b.mono e p⟩⟩
theorem SlotsR.step (s : Step G H A G' H' A') (h : SlotsR K G A σ δ) : SlotsR K G' A' σ δ := h.mono s.g s.pre
theorem RepW.step (s : Step G H A G' H' A') (h : RepW K G A v w) : RepW K G' A' v w := h.mono s.g s.pre
theorem SlotsR.set (h : SlotsR K G A σ δ) (i : Nat) (r : RepW K G A v w) : SlotsR K G A (σ.set i (some v)) (δ.set i (some w)) := by
  refine ⟨by rw [List.length_set, List.length_set, h.len], fun j w' q => ?_⟩
  by_cases hj : i = j
  · subst hj
    have hl : i < δ.length := by
      have := (List.getElem?_eq_some_iff.mp q).1
      rwa [List.length_set] at this
    rw [List.getElem?_set_self hl] at q
    cases q
    exact ⟨v, by rw [List.getElem?_set_self (by rw [h.len]; exact hl)], r⟩
  · rw [List.getElem?_set_ne hj] at q
    obtain ⟨u, h1, h2⟩ := h.get j w' q
    exact ⟨u, by rw [List.getElem?_set_ne hj]; exact h1, h2⟩
def wipeD (δ : DS) : List Nat → DS
  | [] => δ
  | v :: vs => (wipeD δ vs).set v none
theorem SlotsR.wipe (h : SlotsR K G A σ δ) : ∀ vs : List Nat, SlotsR K G A (L2.wipe σ vs) (wipeD δ vs)
  | [] => h
  | u :: vs => by
    have h' := SlotsR.wipe h vs
    refine ⟨?_, fun j w' q => ?_⟩
    · show ((L2.wipe σ vs).set u none).length = ((wipeD δ vs).set u none).length
      rw [List.length_set, List.length_set, h'.len]
    · show ∃ v, ((L2.wipe σ vs).set u none)[j]? = some (some v) ∧ _
      have q : ((wipeD δ vs).set u none)[j]? = some (some w') := q
      by_cases hj : u = j
      · subst hj
        by_cases hl : u < (wipeD δ vs).length
        · rw [List.getElem?_set_self hl] at q; cases q
        · rw [List.getElem?_eq_none (by simpa using hl)] at q; cases q
      · rw [List.getElem?_set_ne hj] at q
        obtain ⟨v, h1, h2⟩ := h'.get j w' q
        exact ⟨v, by rw [List.getElem?_set_ne hj]; exact h1, h2⟩

/-! ### new objects -/
theorem Con.fresh (c : Con K G H A μ) {p : Addr} (h : H p = none) : G p = none ∧ p ∉ A := by
  refine ⟨Evl.fresh_back c.gh h, fun hx => ?_⟩
  obtain ⟨k, hk, ek⟩ := List.getElem_of_mem hx
  obtain ⟨o', h1, _⟩ := c.mem k p (μ[k]'(by rw [← c.len]; exact hk)) (by rw [List.getElem?_eq_getElem hk, ek]) (List.getElem?_eq_getElem _)
  rw [h] at h1; cases h1
/-- a new datum -/
theorem Con.newG (c : Con K G H A μ) {p : Addr} (h : H p = none) (o : HO) : Con K (upd G p o) (upd H p o) A μ ∧ Step G H A (upd G p o) (upd H p o) A := by
  obtain ⟨g0, a0⟩ := c.fresh h
  have eg : Ex G (upd G p o) := Ex.new g0
  refine ⟨⟨fun a u q => ?_, c.len, fun k a m h1 h2 => ?_, c.nd, fun a ha => ?_⟩, eg, fun a u q _ => ?_, ⟨[], by simp, fun _ h => nomatch h⟩, fun x u q => ?_⟩
  · by_cases e : a = p
    · subst e; rw [upd_same] at q ⊢; exact q
    · rw [upd_ne e] at q ⊢; exact c.gh a u q
  · obtain ⟨u, q1, q2⟩ := c.mem k a m h1 h2
    exact ⟨u, by rw [upd_ne (ne_of_none q1 h)]; exact q1, q2.mono eg⟩
  · rw [upd_ne (show a ≠ p from fun e => a0 (by rw [← e]; exact ha))]; exact c.ga a ha
  · rw [upd_ne (ne_of_none q h)]; exact q
  · by_cases e : x = p
    · subst e; exact .inr h
    · rw [upd_ne e] at q; exact .inl q
/-- a new owned object -/
theorem Con.newA (c : Con K G H A μ) {p : Addr} (h : H p = none) {o : HO} {m : M} (r : MRep K G o m) : Con K G (upd H p o) (A ++ [p]) (μ ++ [m]) ∧ Step G H A G (upd H p o) (A ++ [p]) := by
  obtain ⟨g0, a0⟩ := c.fresh h
  refine ⟨⟨fun a u q => ?_, by simp [c.len], fun k a m' h1 h2 => ?_, ?_, fun a ha => ?_⟩, Ex.refl _, fun a u q _ => ?_, ⟨[p], rfl, fun x hx => ?_⟩, fun x u q => .inl q⟩
  · rw [upd_ne (ne_of_none q g0)]; exact c.gh a u q
  · by_cases hk : k < A.length
    · rw [List.getElem?_append_left hk] at h1
      rw [List.getElem?_append_left (by rw [← c.len]; exact hk)] at h2
      obtain ⟨u, q1, q2⟩ := c.mem k a m' h1 h2
      exact ⟨u, by rw [upd_ne (ne_of_none q1 h)]; exact q1, q2⟩
    · have e : k = A.length := by
        have := (List.getElem?_eq_some_iff.mp h1).1
        simp at this; omega
      subst e
      have e1 : p = a := by simpa using h1
      have e2 : m = m' := by rw [c.len] at h2; simpa using h2
      subst e1 e2
      exact ⟨o, upd_same, r⟩
  · exact List.nodup_append.mpr ⟨c.nd, by simp, fun a ha b hb e => a0 (by rw [List.mem_singleton.mp hb] at e; exact e ▸ ha)⟩
  · rcases List.mem_append.mp ha with z | z
    · exact c.ga a z
    · rw [List.mem_singleton.mp z]; exact g0
  · rw [upd_ne (ne_of_none q h)]; exact q
  · rw [List.mem_singleton.mp hx]; exact h
/-- an owned object changes -/
theorem Con.put (c : Con K G H A μ) {k : Nat} {a : Addr} (hk : A[k]? = some a) {o : HO} {m : M} (r : MRep K G o m) : Con K G (upd H a o) A (μ.set k m) ∧ Step G H A G (upd H a o) A := by
  have hm : a ∈ A := List.mem_of_getElem? hk
  have g0 := c.ga a hm
  refine ⟨⟨fun b u q => ?_, by simp [c.len], fun j b m' h1 h2 => ?_, c.nd, c.ga⟩, Ex.refl _, fun b u q hb => ?_, ⟨[], by simp, fun _ h => nomatch h⟩, fun x u q => .inl q⟩
  · rw [upd_ne (ne_of_none q g0)]; exact c.gh b u q
  · by_cases e : k = j
    · subst e
      rw [hk] at h1; cases h1
      rw [List.getElem?_set_self (by rw [← c.len]; exact (List.getElem?_eq_some_iff.mp hk).1)] at h2
      cases h2
      exact ⟨o, upd_same, r⟩
    · rw [List.getElem?_set_ne e] at h2
      obtain ⟨u, q1, q2⟩ := c.mem j b m' h1 h2
      have nab : b ≠ a := fun z => by
        subst z
        obtain ⟨l1, e1⟩ := List.getElem?_eq_some_iff.mp hk
        obtain ⟨l2, e2⟩ := List.getElem?_eq_some_iff.mp h1
        exact e ((List.getElem_inj c.nd).mp (e1.trans e2.symm))
      exact ⟨u, by rw [upd_ne nab]; exact q1, q2⟩
  · rw [upd_ne (show b ≠ a from fun z => hb (by rw [z]; exact hm))]; exact q
/-- an owned object is there -/
theorem Con.at_ (c : Con K G H A μ) {k : Nat} {m : M} (hm : μ[k]? = some m) : ∃ a o, A[k]? = some a ∧ H a = some o ∧ MRep K G o m := by
  have hk : k < A.length := by rw [c.len]; exact (List.getElem?_eq_some_iff.mp hm).1
  obtain ⟨o, h1, h2⟩ := c.mem k A[k] m (List.getElem?_eq_getElem hk) hm
  exact ⟨A[k], o, List.getElem?_eq_getElem hk, h1, h2⟩
/-- an owned list, read by a slot's value -/
theorem Con.ownL (c : Con K G H A μ) {k : Nat} {xs : List D} (hm : μ[k]? = some (.ml xs)) (r : RepW K G A v (.own k)) : ∃ a vs, v = .ref a ∧ A[k]? = some a ∧ H a = some (.lst vs) ∧ Reps K G vs xs := by
  obtain ⟨a, ha, rfl⟩ := r
  obtain ⟨o, h1, vs, rfl, h2⟩ := c.mem k a _ ha hm
  exact ⟨a, vs, rfl, ha, h1, h2⟩
theorem Con.ownK (c : Con K G H A μ) {k : Nat} {xs : List (Key × D)} (hm : μ[k]? = some (.mK xs)) (r : RepW K G A v (.own k)) : ∃ a vs, v = .ref a ∧ A[k]? = some a ∧ H a = some (.dK vs) ∧ RepK K G vs xs := by
  obtain ⟨a, ha, rfl⟩ := r
  obtain ⟨o, h1, vs, rfl, h2⟩ := c.mem k a _ ha hm
  exact ⟨a, vs, rfl, ha, h1, h2⟩
theorem Con.ownT (c : Con K G H A μ) {k : Nat} {xs : List (List Key × D)} (hm : μ[k]? = some (.mT xs)) (r : RepW K G A v (.own k)) : ∃ a vs, v = .ref a ∧ A[k]? = some a ∧ H a = some (.dT vs) ∧ RepT K G vs xs := by
  obtain ⟨a, ha, rfl⟩ := r
  obtain ⟨o, h1, vs, rfl, h2⟩ := c.mem k a _ ha hm
  exact ⟨a, vs, rfl, ha, h1, h2⟩
end
end DL
set_option Elab.async false
set_option linter.all false
set_option maxRecDepth 100000
set_option maxHeartbeats 2000000
/-! DL2: what code does, told over data and the store. -/
namespace DL
open PySem PySem.Spec PyProof.Rows L2
open Evl (Ex)

/-! ### the wanted ends -/
section
variable (K : PySem.W.Frag) (G H : Hp) (A : List Addr)
def LnkV (R : W → List M → Prop) (Q : VK) : Prop := ∀ v w G' H' A' μ', Step G H A G' H' A' → Con K G' H' A' μ' → RepW K G' A' v w → R w μ' → Q v H'
def LnkB (R : Bool → List M → Prop) (Q : Bool → Hp → Prop) : Prop := ∀ b G' H' A' μ', Step G H A G' H' A' → Con K G' H' A' μ' → R b μ' → Q b H'
def LnkO (R : Option Int → List M → Prop) (Q : Option Int → Hp → Prop) : Prop := ∀ b G' H' A' μ', Step G H A G' H' A' → Con K G' H' A' μ' → R b μ' → Q b H'
def LnkL (R : List W → List M → Prop) (Q : List V → Hp → Prop) : Prop := ∀ vs ws G' H' A' μ', Step G H A G' H' A' → Con K G' H' A' μ' → RepWs K G' A' vs ws → R ws μ' → Q vs H'
def LnkS (P : DS → List M → Prop) (p : L2.St → Hp → Prop) : Prop := ∀ σ' δ' G' H' A' μ', Step G H A G' H' A' → Con K G' H' A' μ' → SlotsR K G' A' σ' δ' → P δ' μ' → p σ' H'
end
structure DE where
  nx : DS → List M → Prop
  rt : W → List M → Prop
  bk : DS → List M → Prop := fun _ _ => False
  ct : DS → List M → Prop := fun _ _ => False
structure LnkE (K : PySem.W.Frag) (G H : Hp) (A : List Addr) (D : DE) (E : Ends) : Prop where
  nx : LnkS K G H A D.nx E.nx
  rt : LnkV K G H A D.rt E.rt
  bk : LnkS K G H A D.bk E.bk
  ct : LnkS K G H A D.ct E.ct
section
variable {K : PySem.W.Frag} {G H G1 H1 : Hp} {A A1 : List Addr} {μ μ1 : List M}
theorem LnkV.step {R : W → List M → Prop} {Q : VK} (l : LnkV K G H A R Q) (c1 : Con K G1 H1 A1 μ1) (s : Step G H A G1 H1 A1) : LnkV K G1 H1 A1 R Q := fun v w _ _ _ _ s' c r h => l v w _ _ _ _ (s.trans c1 s') c r h
theorem LnkB.step {R : Bool → List M → Prop} {Q : Bool → Hp → Prop} (l : LnkB K G H A R Q) (c1 : Con K G1 H1 A1 μ1) (s : Step G H A G1 H1 A1) : LnkB K G1 H1 A1 R Q := fun v _ _ _ _ s' c h => l v _ _ _ _ (s.trans c1 s') c h
theorem LnkO.step {R : Option Int → List M → Prop} {Q : Option Int → Hp → Prop} (l : LnkO K G H A R Q) (c1 : Con K G1 H1 A1 μ1) (s : Step G H A G1 H1 A1) : LnkO K G1 H1 A1 R Q := fun v _ _ _ _ s' c h => l v _ _ _ _ (s.trans c1 s') c h
theorem LnkL.step {R : List W → List M → Prop} {Q : List V → Hp → Prop} (l : LnkL K G H A R Q) (c1 : Con K G1 H1 A1 μ1) (s : Step G H A G1 H1 A1) : LnkL K G1 H1 A1 R Q := fun v w _ _ _ _ s' c r h => l v w _ _ _ _ (s.trans c1 s') c r h
theorem LnkS.step {P : DS → List M → Prop} {p : L2.St → Hp → Prop} (l : LnkS K G H A P p) (c1 : Con K G1 H1 A1 μ1) (s : Step G H A G1 H1 A1) : LnkS K G1 H1 A1 P p := fun v w _ _ _ _ s' c r h => l v w _ _ _ _ (s.trans c1 s') c r h
theorem LnkE.step {D : DE} {E : Ends} (l : LnkE K G H A D E) (c1 : Con K G1 H1 A1 μ1) (s : Step G H A G1 H1 A1) : LnkE K G1 H1 A1 D E := ⟨l.nx.step c1 s, l.rt.step c1 s, l.bk.step c1 s, l.ct.step c1 s⟩
/-- a value at once -/
theorem LnkV.now {R : W → List M → Prop} {Q : VK} (l : LnkV K G H A R Q) (c : Con K G H A μ) {v : V} {w : W} (r : RepW K G A v w) (h : R w μ) : Q v H := l v w _ _ _ _ Step.refl c r h
theorem LnkB.now {R : Bool → List M → Prop} {Q : Bool → Hp → Prop} (l : LnkB K G H A R Q) (c : Con K G H A μ) {b : Bool} (h : R b μ) : Q b H := l b _ _ _ _ Step.refl c h
theorem LnkO.now {R : Option Int → List M → Prop} {Q : Option Int → Hp → Prop} (l : LnkO K G H A R Q) (c : Con K G H A μ) {b : Option Int} (h : R b μ) : Q b H := l b _ _ _ _ Step.refl c h
theorem LnkL.now {R : List W → List M → Prop} {Q : List V → Hp → Prop} (l : LnkL K G H A R Q) (c : Con K G H A μ) {vs : List V} {ws : List W} (r : RepWs K G A vs ws) (h : R ws μ) : Q vs H := l vs ws _ _ _ _ Step.refl c r h
theorem LnkS.now {P : DS → List M → Prop} {p : L2.St → Hp → Prop} (l : LnkS K G H A P p) (c : Con K G H A μ) {σ : L2.St} {δ : DS} (r : SlotsR K G A σ δ) (h : P δ μ) : p σ H := l σ δ _ _ _ _ Step.refl c r h
/-- a new datum -/
theorem LnkV.newT {R : W → List M → Prop} {Q : VK} (l : LnkV K G H A R Q) (c : Con K G H A μ) {p : Addr} (hp : H p = none) {vs : List V} {xs : List D} (r : Reps K G vs xs) (h : R (.val (.tup xs)) μ) : Q (.ref p) (upd H p (.tup vs)) :=
  let ⟨c1, s1⟩ := c.newG hp (.tup vs)
  l _ (.val (.tup xs)) _ _ _ _ s1 c1 (Rep.tup upd_same (r.mono s1.g)) h
theorem LnkV.newL {R : W → List M → Prop} {Q : VK} (l : LnkV K G H A R Q) (c : Con K G H A μ) {p : Addr} (hp : H p = none) {vs : List V} {xs : List D} (r : Reps K G vs xs) (h : R (.val (.lst xs)) μ) : Q (.ref p) (upd H p (.lst vs)) :=
  let ⟨c1, s1⟩ := c.newG hp (.lst vs)
  l _ (.val (.lst xs)) _ _ _ _ s1 c1 (Rep.lst upd_same (r.mono s1.g)) h
/-- a new owned object -/
theorem LnkV.newO {R : W → List M → Prop} {Q : VK} (l : LnkV K G H A R Q) (c : Con K G H A μ) {p : Addr} (hp : H p = none) {o : HO} {m : M} (r : MRep K G o m) (h : R (.own μ.length) (μ ++ [m])) : Q (.ref p) (upd H p o) :=
  let ⟨c1, s1⟩ := c.newA hp r
  l _ (.own μ.length) _ _ _ _ s1 c1 ⟨p, by rw [← c.len]; simp, rfl⟩ h
end

/-! ### judgements over readings -/
section
variable (K : PySem.W.Frag)
def EvE (te : TE) (δ : DS) (μ : List M) (R : W → List M → Prop) : Prop := ∀ G H A σ, Con K G H A μ → SlotsR K G A σ δ → ∀ Q : VK, LnkV K G H A R Q → te σ H Q
def EvT (tt : TT) (δ : DS) (μ : List M) (R : Bool → List M → Prop) : Prop := ∀ G H A σ, Con K G H A μ → SlotsR K G A σ δ → ∀ Q : Bool → Hp → Prop, LnkB K G H A R Q → tt σ H Q
def EvO (tt : TO) (δ : DS) (μ : List M) (R : Option Int → List M → Prop) : Prop := ∀ G H A σ, Con K G H A μ → SlotsR K G A σ δ → ∀ Q : Option Int → Hp → Prop, LnkO K G H A R Q → tt σ H Q
def EvA (ta : TA) (δ : DS) (μ : List M) (R : List W → List M → Prop) : Prop := ∀ G H A σ, Con K G H A μ → SlotsR K G A σ δ → ∀ Q : List V → Hp → Prop, LnkL K G H A R Q → ta σ H Q
def EvS (ts : TS) (δ : DS) (μ : List M) (D : DE) : Prop := ∀ G H A σ, Con K G H A μ → SlotsR K G A σ δ → ∀ E : Ends, LnkE K G H A D E → ts E σ H
def EvG (tg : TG) (w : W) (δ : DS) (μ : List M) (P : DS → List M → Prop) : Prop := ∀ G H A σ v, Con K G H A μ → SlotsR K G A σ δ → RepW K G A v w → ∀ Q : L2.St → Hp → Prop, LnkS K G H A P Q → tg v σ H Q
def EvGs (tg : TGs) (ds : List D) (δ : DS) (μ : List M) (P : DS → List M → Prop) : Prop := ∀ G H A σ vs, Con K G H A μ → SlotsR K G A σ δ → Reps K G vs ds → ∀ Q : L2.St → Hp → Prop, LnkS K G H A P Q → tg vs σ H Q
/-- by values -/
def RV2 (r : R2) (w1 w2 : W) (μ : List M) (R : W → List M → Prop) : Prop := ∀ G H A v1 v2, Con K G H A μ → RepW K G A v1 w1 → RepW K G A v2 w2 → ∀ Q : VK, LnkV K G H A R Q → r v1 v2 H Q
def RV1 (r : V → Hp → VK → Prop) (w : W) (μ : List M) (R : W → List M → Prop) : Prop := ∀ G H A v, Con K G H A μ → RepW K G A v w → ∀ Q : VK, LnkV K G H A R Q → r v H Q
def RVL (r : List V → Hp → VK → Prop) (ws : List W) (μ : List M) (R : W → List M → Prop) : Prop := ∀ G H A vs, Con K G H A μ → RepWs K G A vs ws → ∀ Q : VK, LnkV K G H A R Q → r vs H Q
def RVM (r : V → List V → Hp → VK → Prop) (w : W) (ws : List W) (μ : List M) (R : W → List M → Prop) : Prop := ∀ G H A v vs, Con K G H A μ → RepW K G A v w → RepWs K G A vs ws → ∀ Q : VK, LnkV K G H A R Q → r v vs H Q
def RVS (r : V → Option Int → Option Int → Hp → VK → Prop) (w : W) (lo hi : Option Int) (μ : List M) (R : W → List M → Prop) : Prop := ∀ G H A v, Con K G H A μ → RepW K G A v w → ∀ Q : VK, LnkV K G H A R Q → r v lo hi H Q
end

section
variable {K : PySem.W.Frag} {δ : DS} {μ : List M} {ta tb tc te : TE} {R : W → List M → Prop} {RB : Bool → List M → Prop}
theorem ev_var {i : Nat} {w : W} (hδ : δ[i]? = some (some w)) (h : R w μ) : EvE K (tVar i) δ μ R := fun G H A σ c s Q l => by
  obtain ⟨v, e, r⟩ := s.get i w hδ
  exact ⟨v, e, l.now c r h⟩
theorem ev_c {v : V} {d : D} (hd : ∀ G, Rep K G v d) (h : R (.val d) μ) : EvE K (tC v) δ μ R := fun G H A σ c s Q l => l.now (w := .val d) c (hd G) h
theorem ev_op {r : R2} (h : EvE K ta δ μ fun w1 μ1 => EvE K tb δ μ1 fun w2 μ2 => RV2 K r w1 w2 μ2 R) : EvE K (tOp r ta tb) δ μ R := fun G H A σ c s Q l =>
  h G H A σ c s _ fun v1 w1 G1 H1 A1 μ1 s1 c1 r1 h1 => h1 G1 H1 A1 σ c1 (s.step s1) _ fun v2 w2 G2 H2 A2 μ2 s2 c2 r2 h2 =>
    h2 G2 H2 A2 v1 v2 c2 (r1.step s2) r2 Q ((l.step c1 s1).step c2 s2)
theorem ev_un {r : V → Hp → VK → Prop} (h : EvE K ta δ μ fun w1 μ1 => RV1 K r w1 μ1 R) : EvE K (tUn r ta) δ μ R := fun G H A σ c s Q l =>
  h G H A σ c s _ fun v1 w1 G1 H1 A1 μ1 s1 c1 r1 h1 => h1 G1 H1 A1 v1 c1 r1 Q (l.step c1 s1)
theorem ea_nil {RL : List W → List M → Prop} (h : RL [] μ) : EvA K tNil δ μ RL := fun G H A σ c s Q l => l.now c .nil h
theorem ea_cons {t : TA} {RL : List W → List M → Prop} (h : EvE K te δ μ fun w μ1 => EvA K t δ μ1 fun ws μ2 => RL (w :: ws) μ2) : EvA K (tCons te t) δ μ RL := fun G H A σ c s Q l =>
  h G H A σ c s _ fun v1 w1 G1 H1 A1 μ1 s1 c1 r1 h1 => h1 G1 H1 A1 σ c1 (s.step s1) _ fun vs ws G2 H2 A2 μ2 s2 c2 r2 h2 =>
    l _ _ _ _ _ _ (s1.trans c1 s2) c2 (.cons (r1.step s2) r2) h2
theorem ev_cb {t : TA} {r : List V → Hp → VK → Prop} (h : EvA K t δ μ fun ws μ1 => RVL K r ws μ1 R) : EvE K (tCB r t) δ μ R := fun G H A σ c s Q l =>
  h G H A σ c s _ fun vs ws G1 H1 A1 μ1 s1 c1 r1 h1 => h1 G1 H1 A1 vs c1 r1 Q (l.step c1 s1)
theorem vals_reps {G : Hp} {A : List Addr} : ∀ {vs : List V} {ds : List D}, RepWs K G A vs (ds.map W.val) → Reps K G vs ds
  | _, [], .nil => .nil
  | _, _ :: _, .cons a b => .cons a (vals_reps b)
theorem reps_vals {G : Hp} {A : List Addr} : ∀ {vs : List V} {ds : List D}, Reps K G vs ds → RepWs K G A vs (ds.map W.val)
  | _, _, .nil => .nil
  | _, _, .cons a b => .cons a (reps_vals b)
theorem ev_tup {t : TA} (h : EvA K t δ μ fun ws μ1 => ∃ ds : List D, ws = ds.map W.val ∧ ds.length ≤ 100000 ∧ R (.val (.tup ds)) μ1) : EvE K (tTup t) δ μ R := fun G H A σ c s Q l =>
  h G H A σ c s _ fun vs ws G1 H1 A1 μ1 s1 c1 r1 h1 => by
    obtain ⟨ds, rfl, z, h1⟩ := h1
    have r2 := vals_reps r1
    exact ⟨by rw [r2.length]; exact Evl.sz_of z, fun p hp => (l.step c1 s1).newT c1 hp r2 h1⟩
theorem ev_lst {t : TA} (h : EvA K t δ μ fun ws μ1 => ∃ ds : List D, ws = ds.map W.val ∧ ds.length ≤ 100000 ∧ R (.val (.lst ds)) μ1) : EvE K (tLst t) δ μ R := fun G H A σ c s Q l =>
  h G H A σ c s _ fun vs ws G1 H1 A1 μ1 s1 c1 r1 h1 => by
    obtain ⟨ds, rfl, z, h1⟩ := h1
    have r2 := vals_reps r1
    exact ⟨by rw [r2.length]; exact Evl.sz_of z, fun p hp => (l.step c1 s1).newL c1 hp r2 h1⟩
/-- the new list is owned -/
theorem ev_lstO {t : TA} (h : EvA K t δ μ fun ws μ1 => ∃ ds : List D, ws = ds.map W.val ∧ ds.length ≤ 100000 ∧ R (.own μ1.length) (μ1 ++ [.ml ds])) : EvE K (tLst t) δ μ R := fun G H A σ c s Q l =>
  h G H A σ c s _ fun vs ws G1 H1 A1 μ1 s1 c1 r1 h1 => by
    obtain ⟨ds, rfl, z, h1⟩ := h1
    have r2 := vals_reps r1
    exact ⟨by rw [r2.length]; exact Evl.sz_of z, fun p hp => (l.step c1 s1).newO c1 hp (m := .ml ds) ⟨_, rfl, r2⟩ h1⟩
/-! tests -/
theorem et_test (h : EvE K te δ μ fun w μ1 => ∃ b, w = .val (.bl b) ∧ RB b μ1) : EvT K (tTest te) δ μ RB := fun G H A σ c s Q l =>
  h G H A σ c s _ fun v w G1 H1 A1 μ1 s1 c1 r1 h1 => by
    obtain ⟨b, rfl, h1⟩ := h1
    cases r1
    exact ⟨b, rfl, l b _ _ _ _ s1 c1 h1⟩
theorem et_B (h : EvE K te δ μ fun w μ1 => ∃ b, w = .val (.bl b) ∧ RB b μ1) : EvT K (tB te) δ μ RB := fun G H A σ c s Q l =>
  h G H A σ c s _ fun v w G1 H1 A1 μ1 s1 c1 r1 h1 => by
    obtain ⟨b, rfl, h1⟩ := h1
    cases r1
    exact ⟨b, rfl, l b _ _ _ _ s1 c1 h1⟩
variable {t u : TT}
theorem et_and (h : EvT K t δ μ fun b μ1 => (b = true → EvT K u δ μ1 RB) ∧ (b = false → RB false μ1)) : EvT K (tAnd t u) δ μ RB := fun G H A σ c s Q l =>
  h G H A σ c s _ fun b G1 H1 A1 μ1 s1 c1 h1 => by
    cases b with
    | true => rw [if_pos rfl]; exact h1.1 rfl G1 H1 A1 σ c1 (s.step s1) Q (l.step c1 s1)
    | false => rw [if_neg Bool.false_ne_true]; exact l false _ _ _ _ s1 c1 (h1.2 rfl)
theorem et_or (h : EvT K t δ μ fun b μ1 => (b = false → EvT K u δ μ1 RB) ∧ (b = true → RB true μ1)) : EvT K (tOr t u) δ μ RB := fun G H A σ c s Q l =>
  h G H A σ c s _ fun b G1 H1 A1 μ1 s1 c1 h1 => by
    cases b with
    | false => rw [if_neg Bool.false_ne_true]; exact h1.1 rfl G1 H1 A1 σ c1 (s.step s1) Q (l.step c1 s1)
    | true => rw [if_pos rfl]; exact l true _ _ _ _ s1 c1 (h1.2 rfl)
theorem et_not (h : EvT K t δ μ fun b μ1 => RB (!b) μ1) : EvT K (tNot t) δ μ RB := fun G H A σ c s Q l =>
  h G H A σ c s _ fun b G1 H1 A1 μ1 s1 c1 h1 => l _ _ _ _ _ s1 c1 h1
theorem ev_if (h : EvT K t δ μ fun b μ1 => (b = true → EvE K ta δ μ1 R) ∧ (b = false → EvE K tb δ μ1 R)) : EvE K (tIf t ta tb) δ μ R := fun G H A σ c s Q l =>
  h G H A σ c s _ fun b G1 H1 A1 μ1 s1 c1 h1 => by
    cases b with
    | true => rw [if_pos rfl]; exact h1.1 rfl G1 H1 A1 σ c1 (s.step s1) Q (l.step c1 s1)
    | false => rw [if_neg Bool.false_ne_true]; exact h1.2 rfl G1 H1 A1 σ c1 (s.step s1) Q (l.step c1 s1)
theorem ev_andV (h : EvE K ta δ μ fun w μ1 => ∃ b, w = .val (.bl b) ∧ (b = true → EvE K tb δ μ1 R) ∧ (b = false → R (.val (.bl false)) μ1)) : EvE K (tAndV ta tb) δ μ R := fun G H A σ c s Q l =>
  h G H A σ c s _ fun v w G1 H1 A1 μ1 s1 c1 r1 h1 => by
    obtain ⟨b, rfl, h1, h2⟩ := h1
    cases r1
    refine ⟨b, rfl, ?_⟩
    cases b with
    | true => rw [if_pos rfl]; exact h1 rfl G1 H1 A1 σ c1 (s.step s1) Q (l.step c1 s1)
    | false => rw [if_neg Bool.false_ne_true]; exact l _ (.val (.bl false)) _ _ _ _ s1 c1 (Rep.bl false) (h2 rfl)
theorem ev_orV (h : EvE K ta δ μ fun w μ1 => ∃ b, w = .val (.bl b) ∧ (b = false → EvE K tb δ μ1 R) ∧ (b = true → R (.val (.bl true)) μ1)) : EvE K (tOrV ta tb) δ μ R := fun G H A σ c s Q l =>
  h G H A σ c s _ fun v w G1 H1 A1 μ1 s1 c1 r1 h1 => by
    obtain ⟨b, rfl, h1, h2⟩ := h1
    cases r1
    refine ⟨b, rfl, ?_⟩
    cases b with
    | false => rw [if_neg Bool.false_ne_true]; exact h1 rfl G1 H1 A1 σ c1 (s.step s1) Q (l.step c1 s1)
    | true => rw [if_pos rfl]; exact l _ (.val (.bl true)) _ _ _ _ s1 c1 (Rep.bl true) (h2 rfl)
theorem ev_notV (h : EvE K ta δ μ fun w μ1 => ∃ b, w = .val (.bl b) ∧ R (.val (.bl (!b))) μ1) : EvE K (tNotV ta) δ μ R := fun G H A σ c s Q l =>
  h G H A σ c s _ fun v w G1 H1 A1 μ1 s1 c1 r1 h1 => by
    obtain ⟨b, rfl, h1⟩ := h1
    cases r1
    exact ⟨b, rfl, l _ (.val (.bl (!b))) _ _ _ _ s1 c1 (Rep.bl _) h1⟩
/-- a < b < c -/
theorem ev_chain {r r' : R2} (h : EvE K ta δ μ fun w1 μ1 => EvE K tb δ μ1 fun w2 μ2 => RV2 K r w1 w2 μ2 fun z μ3 => ∃ k, z = .val (.bl k) ∧ (k = true → EvE K tc δ μ3 fun w3 μ4 => RV2 K r' w2 w3 μ4 R) ∧ (k = false → R (.val (.bl false)) μ3)) :
    EvE K (tChain r r' ta tb tc) δ μ R := fun G H A σ c s Q l =>
  h G H A σ c s _ fun v1 w1 G1 H1 A1 μ1 s1 c1 r1 h1 => h1 G1 H1 A1 σ c1 (s.step s1) _ fun v2 w2 G2 H2 A2 μ2 s2 c2 r2 h2 =>
    h2 G2 H2 A2 v1 v2 c2 (r1.step s2) r2 _ fun v3 w3 G3 H3 A3 μ3 s3 c3 r3 h3 => by
      obtain ⟨k, rfl, hT, hF⟩ := h3
      cases r3
      refine ⟨k, rfl, ?_⟩
      have l3 := ((l.step c1 s1).step c2 s2).step c3 s3
      cases k with
      | true =>
        rw [if_pos rfl]
        exact hT rfl G3 H3 A3 σ c3 (((s.step s1).step s2).step s3) _ fun v4 w4 G4 H4 A4 μ4 s4 c4 r4 h4 => h4 G4 H4 A4 v2 v4 c4 ((r2.step s3).step s4) r4 Q (l3.step c4 s4)
      | false =>
        rw [if_neg Bool.false_ne_true]
        exact l3.now c3 (w := .val (.bl false)) (Rep.bl false) (hF rfl)
/-! slices -/
theorem eo_none {RO : Option Int → List M → Prop} (h : RO none μ) : EvO K tNoPart δ μ RO := fun G H A σ c s Q l => l.now c h
theorem eo_some {RO : Option Int → List M → Prop} (h : EvE K te δ μ fun w μ1 => ∃ i, w = .val (.int i) ∧ RO (some i) μ1) : EvO K (tPart te) δ μ RO := fun G H A σ c s Q l =>
  h G H A σ c s _ fun v w G1 H1 A1 μ1 s1 c1 r1 h1 => by
    obtain ⟨i, rfl, h1⟩ := h1
    cases r1
    exact ⟨i, rfl, l _ _ _ _ _ s1 c1 h1⟩
theorem ev_sl {r : V → Option Int → Option Int → Hp → VK → Prop} {tl th : TO} (h : EvE K te δ μ fun w μ1 => EvO K tl δ μ1 fun lo μ2 => EvO K th δ μ2 fun hi μ3 => RVS K r w lo hi μ3 R) : EvE K (tSl r te tl th) δ μ R := fun G H A σ c s Q l =>
  h G H A σ c s _ fun v w G1 H1 A1 μ1 s1 c1 r1 h1 => h1 G1 H1 A1 σ c1 (s.step s1) _ fun lo G2 H2 A2 μ2 s2 c2 h2 => h2 G2 H2 A2 σ c2 ((s.step s1).step s2) _ fun hi G3 H3 A3 μ3 s3 c3 h3 =>
    h3 G3 H3 A3 v c3 ((r1.step s2).step s3) Q (((l.step c1 s1).step c2 s2).step c3 s3)
/-! methods of built-in types -/
def TyW (K : PySem.W.Frag) (T : String) (w : W) (μ : List M) : Prop := ∀ G H A v, Con K G H A μ → RepW K G A v w → tyV K T v H
theorem ev_bm {T : String} {r : V → List V → Hp → VK → Prop} {t : TA} (h : EvE K te δ μ fun w μ1 => TyW K T w μ1 ∧ EvA K t δ μ1 fun ws μ2 => RVM K r w ws μ2 R) : EvE K (tBM K T r te t) δ μ R := fun G H A σ c s Q l =>
  h G H A σ c s _ fun v w G1 H1 A1 μ1 s1 c1 r1 h1 => ⟨h1.1 G1 H1 A1 v c1 r1, h1.2 G1 H1 A1 σ c1 (s.step s1) _ fun vs ws G2 H2 A2 μ2 s2 c2 r2 h2 =>
    h2 G2 H2 A2 v vs c2 (r1.step s2) r2 Q ((l.step c1 s1).step c2 s2)⟩
theorem ev_bm0 {T : String} {r : V → List V → Hp → VK → Prop} (h : EvE K te δ μ fun w μ1 => TyW K T w μ1 ∧ RVM K r w [] μ1 R) : EvE K (tBM0 K T r te) δ μ R := fun G H A σ c s Q l =>
  h G H A σ c s _ fun v w G1 H1 A1 μ1 s1 c1 r1 h1 => ⟨h1.1 G1 H1 A1 v c1 r1, h1.2 G1 H1 A1 v [] c1 r1 .nil Q (l.step c1 s1)⟩
theorem tyW_ownL {k : Nat} {xs : List D} (h : μ[k]? = some (.ml xs)) : TyW K "list" (.own k) μ := fun G H A v c r => by
  obtain ⟨a, vs, rfl, _, h1, _⟩ := c.ownL h r
  exact .inl ⟨rfl, vs, SqL.of h1⟩
/-! ### statements -/
variable {D : DE} {ts tu : TS} {g : TG}
theorem es_nx (h : D.nx δ μ) : EvS K tNext δ μ D := fun G H A σ c s E l => l.nx.now c s h
theorem es_seq (h : EvS K ts δ μ { D with nx := fun δ1 μ1 => EvS K tu δ1 μ1 D }) : EvS K (tSeq ts tu) δ μ D := fun G H A σ c s E l =>
  h G H A σ c s { E with nx := tu E } ⟨fun σ' δ' G' H' A' μ' st c' s' hP => hP G' H' A' σ' c' s' E (l.step c' st), l.rt, l.bk, l.ct⟩
theorem es_asg (h : EvE K te δ μ fun w μ1 => EvG K g w δ μ1 D.nx) : EvS K (tAsg te g) δ μ D := fun G H A σ c s E l =>
  h G H A σ c s _ fun v w G1 H1 A1 μ1 s1 c1 r1 h1 => h1 G1 H1 A1 σ v c1 (s.step s1) r1 _ (l.nx.step c1 s1)
theorem es_ret (h : EvE K te δ μ D.rt) : EvS K (tRet te) δ μ D := fun G H A σ c s E l => h G H A σ c s _ l.rt
theorem es_drop (h : EvE K te δ μ fun _ μ1 => D.nx δ μ1) : EvS K (tDrop te) δ μ D := fun G H A σ c s E l =>
  h G H A σ c s _ fun v w G1 H1 A1 μ1 s1 c1 r1 h1 => l.nx _ _ _ _ _ _ s1 c1 (s.step s1) h1
theorem es_if (h : EvT K t δ μ fun b μ1 => (b = true → EvS K ts δ μ1 D) ∧ (b = false → EvS K tu δ μ1 D)) : EvS K (tIfS t ts tu) δ μ D := fun G H A σ c s E l =>
  h G H A σ c s _ fun b G1 H1 A1 μ1 s1 c1 h1 => by
    cases b with
    | true => rw [if_pos rfl]; exact h1.1 rfl G1 H1 A1 σ c1 (s.step s1) E (l.step c1 s1)
    | false => rw [if_neg Bool.false_ne_true]; exact h1.2 rfl G1 H1 A1 σ c1 (s.step s1) E (l.step c1 s1)
theorem eg_name {i : Nat} {w : W} {P : DS → List M → Prop} (h : P (δ.set i (some w)) μ) : EvG K (gName i) w δ μ P := fun G H A σ v c s r Q l => l.now c (s.set i r) h
theorem egs_nil {P : DS → List M → Prop} (h : P δ μ) : EvGs K gNil [] δ μ P := fun G H A σ vs c s r Q l => by
  cases r
  exact ⟨rfl, l.now c s h⟩
theorem egs_cons {tg : TG} {tr : TGs} {d : DL.D} {ds : List DL.D} {P : DS → List M → Prop} (h : EvG K tg (.val d) δ μ fun δ1 μ1 => EvGs K tr ds δ1 μ1 P) : EvGs K (gCons tg tr) (d :: ds) δ μ P := fun G H A σ vs c s r Q l => by
  cases r with
  | cons a b =>
    exact ⟨_, _, rfl, h G H A σ _ c s a _ fun σ' δ' G' H' A' μ' s1 c1 r1 h1 => h1 G' H' A' σ' _ c1 r1 (b.mono s1.g) Q (l.step c1 s1)⟩
theorem eg_tup {n : Nat} {tr : TGs} {d : DL.D} {ds : List DL.D} {P : DS → List M → Prop} (hd : TupD d ds) (hn : ds.length = n) (h : EvGs K tr ds δ μ P) : EvG K (gTup K n tr) (.val d) δ μ P := fun G H A σ v c s r Q l => by
  obtain ⟨a, vs, rfl, h1, h2⟩ := Rep.tupD r hd
  exact ⟨_, _, rfl, .inl (Evl.ex_rd c.gh h1), by rw [h2.length, hn], h G H A σ _ c s h2 Q l⟩
/-- name, name = e, e -/
theorem es_par {i j : Nat} {t : TA} (h : EvA K t δ μ fun ws μ1 => ∃ a b, ws = [a, b] ∧ D.nx ((δ.set i (some a)).set j (some b)) μ1) : EvS K (tPar i j t) δ μ D := fun G H A σ c s E l =>
  h G H A σ c s _ fun vs ws G1 H1 A1 μ1 s1 c1 r1 h1 => by
    obtain ⟨a, b, rfl, h1⟩ := h1
    cases r1 with
    | cons r1 r2 =>
      cases r2 with
      | cons r2 r3 =>
        cases r3
        exact ⟨_, _, rfl, l.nx _ _ _ _ _ _ s1 c1 (((s.step s1).set i r1).set j r2) h1⟩
/-! while -/
theorem es_while (Wd : Nat → DS → List M → Prop) (m0 : Nat) (h0 : Wd m0 δ μ)
    (hs : ∀ m δ' μ', Wd m δ' μ' → EvT K t δ' μ' fun b μ1 => (b = true → EvS K ts δ' μ1 ⟨fun δ2 μ2 => ∃ m', m' < m ∧ Wd m' δ2 μ2, D.rt, D.nx, fun δ2 μ2 => ∃ m', m' < m ∧ Wd m' δ2 μ2⟩) ∧ (b = false → D.nx δ' μ1)) : EvS K (tWhile t ts) δ μ D := fun G H A σ c s E l => by
  refine ⟨fun m σ' H' => ∃ δ' G' A' μ', Step G H A G' H' A' ∧ Con K G' H' A' μ' ∧ SlotsR K G' A' σ' δ' ∧ Wd m δ' μ', ⟨m0, δ, G, A, μ, Step.refl, c, s, h0⟩, ?_⟩
  rintro m σ' H' ⟨δ', G', A', μ', st, c', s', hw⟩
  refine hs m δ' μ' hw G' H' A' σ' c' s' _ fun b G1 H1 A1 μ1 s1 c1 h1 => ?_
  cases b with
  | false =>
    rw [if_neg Bool.false_ne_true]
    exact l.nx _ _ _ _ _ _ (st.trans c' s1) c1 (s'.step s1) (h1.2 rfl)
  | true =>
    rw [if_pos rfl]
    have l1 := (l.step c' st).step c1 s1
    refine ⟨fun σ2 H2 => ∃ m', m' < m ∧ ∃ δ' G' A' μ', Step G H A G' H2 A' ∧ Con K G' H2 A' μ' ∧ SlotsR K G' A' σ2 δ' ∧ Wd m' δ' μ', fun σ2 H2 hN => hN, ?_⟩
    refine h1.1 rfl G1 H1 A1 σ' c1 (s'.step s1) _ ⟨fun σ2 δ2 G2 H2 A2 μ2 s2 c2 r2 ⟨m', hm, hW⟩ => ⟨m', hm, δ2, G2, A2, μ2, (st.trans c' s1).trans c1 s2, c2, r2, hW⟩, l1.rt, l1.nx,
      fun σ2 δ2 G2 H2 A2 μ2 s2 c2 r2 ⟨m', hm, hW⟩ => ⟨m', hm, δ2, G2, A2, μ2, (st.trans c' s1).trans c1 s2, c2, r2, hW⟩⟩
end

/-! ### walks of things -/
/-- J walks the data xs, as long as keep holds of the store -/
def ItD (K : PySem.W.Frag) (J : It) (G H : Hp) (A : List Addr) (xs : List D) (keep : List M → Prop) : Prop :=
  ∃ (Gd : Hp → Prop) (Y : Nat → Hp → V → Hp → Prop), Walk J xs.length Gd Y ∧
    (∀ G' H' A' μ', Step G H A G' H' A' → Con K G' H' A' μ' → keep μ' → Gd H') ∧
    ∀ (i : Nat) (d : D) G' H' A' μ' x H'', xs[i]? = some d → Step G H A G' H' A' → Con K G' H' A' μ' → keep μ' → Y i H' x H'' → ∃ G'', Step G' H' A' G'' H'' A' ∧ Con K G'' H'' A' μ' ∧ Rep K G'' x d
def EvI (K : PySem.W.Frag) (ti : TI) (δ : DS) (μ : List M) (R : List D → (List M → Prop) → List M → Prop) : Prop :=
  ∀ G H A σ, Con K G H A μ → SlotsR K G A σ δ → ∀ Q : It → Hp → Prop, (∀ J xs keep G' H' A' μ', Step G H A G' H' A' → Con K G' H' A' μ' → ItD K J G' H' A' xs keep → R xs keep μ' → Q J H') → ti σ H Q
section
variable {K : PySem.W.Frag} {δ : DS} {μ : List M} {te : TE} {ti : TI} {tt : TT} {ts : TS} {g : TG} {D : DE} {R : List DL.D → (List M → Prop) → List M → Prop} {RW : W → List M → Prop}
theorem es_for (h : EvI K ti δ μ fun xs keep μ1 => ∃ P : Nat → DS → List M → Prop, P 0 δ μ1 ∧ (∀ i δ' μ', i ≤ xs.length → P i δ' μ' → keep μ') ∧
      (∀ i d δ' μ', xs[i]? = some d → P i δ' μ' → EvG K g (.val d) δ' μ' fun δ2 μ2 => EvS K ts δ2 μ2 ⟨P (i + 1), D.rt, D.nx, P (i + 1)⟩) ∧ ∀ δ' μ', P xs.length δ' μ' → D.nx δ' μ') : EvS K (tFor ti g ts) δ μ D := fun G H A σ c s E l => by
  refine h G H A σ c s _ fun J xs keep G1 H1 A1 μ1 s1 c1 hJ ⟨P, p0, pk, pt, pd⟩ => ?_
  obtain ⟨Gd, Y, wk, hg, hy⟩ := hJ
  have l1 := l.step c1 s1
  refine for_it wk (fun i σ' H' => ∃ δ' G' A' μ', Step G1 H1 A1 G' H' A' ∧ Con K G' H' A' μ' ∧ SlotsR K G' A' σ' δ' ∧ P i δ' μ') ⟨δ, G1, A1, μ1, Step.refl, c1, s.step s1, p0⟩ ?_ ?_ ?_
  · rintro i σ' H' hi ⟨δ', G', A', μ', st, c', s', hP⟩
    exact hg G' H' A' μ' st c' (pk i δ' μ' hi hP)
  · rintro i x σ' H' H'' hi ⟨δ', G', A', μ', st, c', s', hP⟩ y
    have hx : xs[i]? = some xs[i] := List.getElem?_eq_getElem hi
    obtain ⟨G2, s2, c2, r2⟩ := hy i _ G' H' A' μ' x H'' hx st c' (pk i δ' μ' (Nat.le_of_lt hi) hP) y
    have st2 := st.trans c' s2
    refine pt i _ δ' μ' hx hP G2 H'' A' σ' x c2 (s'.step s2) r2 _ fun σ3 δ3 G3 H3 A3 μ3 s3 c3 r3 h3 => ?_
    have st3 := st2.trans c2 s3
    exact h3 G3 H3 A3 σ3 c3 r3 _ ⟨fun σ4 δ4 G4 H4 A4 μ4 s4 c4 r4 h4 => ⟨δ4, G4, A4, μ4, st3.trans c3 s4, c4, r4, h4⟩, (l1.step c3 st3).rt, (l1.step c3 st3).nx, fun σ4 δ4 G4 H4 A4 μ4 s4 c4 r4 h4 => ⟨δ4, G4, A4, μ4, st3.trans c3 s4, c4, r4, h4⟩⟩
  · rintro σ' H' ⟨δ', G', A', μ', st, c', s', hP⟩
    exact l1.nx σ' δ' G' H' A' μ' st c' s' (pd δ' μ' hP)

/-! ### comprehensions -/
/-- the target of a comprehension: the block's names alone are stored -/
def EvC (K : PySem.W.Frag) (tg : TG) (vs : List Nat) (w : W) (δ : DS) (μ : List M) (P : DS → List M → Prop) : Prop :=
  ∀ G H A σ v, Con K G H A μ → SlotsR K G A σ δ → RepW K G A v w → ∀ Q : L2.St → Hp → Prop, (∀ σ' δ' G' H' A' μ', L2.wipe σ' vs = L2.wipe σ vs → Step G H A G' H' A' → Con K G' H' A' μ' → SlotsR K G' A' σ' δ' → P δ' μ' → Q σ' H') → tg v σ H Q
def EvCs (K : PySem.W.Frag) (tg : TGs) (vs : List Nat) (ds : List DL.D) (δ : DS) (μ : List M) (P : DS → List M → Prop) : Prop :=
  ∀ G H A σ us, Con K G H A μ → SlotsR K G A σ δ → Reps K G us ds → ∀ Q : L2.St → Hp → Prop, (∀ σ' δ' G' H' A' μ', L2.wipe σ' vs = L2.wipe σ vs → Step G H A G' H' A' → Con K G' H' A' μ' → SlotsR K G' A' σ' δ' → P δ' μ' → Q σ' H') → tg us σ H Q
theorem wipe_set_in {i : Nat} {x : Option V} : ∀ {vs : List Nat} {σ : L2.St}, i ∈ vs → L2.wipe (σ.set i x) vs = L2.wipe σ vs := by
  intro vs
  have comm : ∀ (vs : List Nat) (σ : L2.St), i ∉ vs → L2.wipe (σ.set i x) vs = (L2.wipe σ vs).set i x := by
    intro vs
    induction vs with
    | nil => intro σ _; rfl
    | cons u r ih =>
      intro σ h
      simp only [List.mem_cons, not_or] at h
      show (L2.wipe (σ.set i x) r).set u none = ((L2.wipe σ r).set u none).set i x
      rw [ih σ h.2, List.set_comm _ _ h.1]
  induction vs with
  | nil => intro σ h; cases h
  | cons u r ih =>
    intro σ h
    show (L2.wipe (σ.set i x) r).set u none = (L2.wipe σ r).set u none
    by_cases hr : i ∈ r
    · rw [ih hr]
    · have e : i = u := (List.mem_cons.mp h).resolve_right hr
      subst e
      rw [comm r σ hr, List.set_set]
theorem ec_name {i : Nat} {vs : List Nat} {w : W} {P : DS → List M → Prop} (hi : i ∈ vs) (h : P (δ.set i (some w)) μ) : EvC K (gName i) vs w δ μ P := fun G H A σ v c s r Q l =>
  l _ _ _ _ _ _ (wipe_set_in hi) Step.refl c (s.set i r) h
theorem ecs_nil {vs : List Nat} {P : DS → List M → Prop} (h : P δ μ) : EvCs K gNil vs [] δ μ P := fun G H A σ us c s r Q l => by
  cases r
  exact ⟨rfl, l _ _ _ _ _ _ rfl Step.refl c s h⟩
theorem ecs_cons {vs : List Nat} {tg : TG} {tr : TGs} {d : DL.D} {ds : List DL.D} {P : DS → List M → Prop} (h : EvC K tg vs (.val d) δ μ fun δ1 μ1 => EvCs K tr vs ds δ1 μ1 P) : EvCs K (gCons tg tr) vs (d :: ds) δ μ P := fun G H A σ us c s r Q l => by
  cases r with
  | cons a b =>
    exact ⟨_, _, rfl, h G H A σ _ c s a _ fun σ' δ' G' H' A' μ' e s1 c1 r1 h1 => h1 G' H' A' σ' _ c1 r1 (b.mono s1.g) Q fun σ2 δ2 G2 H2 A2 μ2 e2 s2 c2 r2 h2 => l _ _ _ _ _ _ (e2.trans e) (s1.trans c1 s2) c2 r2 h2⟩
theorem ec_tup {vs : List Nat} {n : Nat} {tr : TGs} {d : DL.D} {ds : List DL.D} {P : DS → List M → Prop} (hd : TupD d ds) (hn : ds.length = n) (h : EvCs K tr vs ds δ μ P) : EvC K (gTup K n tr) vs (.val d) δ μ P := fun G H A σ v c s r Q l => by
  obtain ⟨a, us, rfl, h1, h2⟩ := Rep.tupD r hd
  exact ⟨_, _, rfl, .inl (Evl.ex_rd c.gh h1), by rw [h2.length, hn], h G H A σ _ c s h2 Q l⟩

/-- a new list as data (false) or as an owned object (true) -/
def mkL (o : Bool) (RW : W → List M → Prop) (xs : List DL.D) (μ : List M) : Prop := match o with
  | true => RW (.own μ.length) (μ ++ [.ml xs])
  | false => RW (.val (.lst xs)) μ
theorem LnkV.newB {G H : Hp} {A : List Addr} {o : Bool} {RW : W → List M → Prop} {Q : VK} (l : LnkV K G H A RW Q) (c : Con K G H A μ) {p : Addr} (hp : H p = none) {vs : List V} {xs : List DL.D} (r : Reps K G vs xs) (h : mkL o RW xs μ) : Q (.ref p) (upd H p (.lst vs)) := by
  cases o with
  | true => exact l.newO c hp (m := .ml xs) ⟨_, rfl, r⟩ h
  | false => exact l.newL c hp r h
/-- an untracked new object beside -/
theorem Con.hid {G H : Hp} {A : List Addr} (c : Con K G H A μ) {p : Addr} (g0 : G p = none) (a0 : p ∉ A) (o : HO) : Con K G (upd H p o) A μ := by
  refine ⟨fun a u q => ?_, c.len, fun k a m h1 h2 => ?_, c.nd, c.ga⟩
  · rw [upd_ne (ne_of_none q g0)]; exact c.gh a u q
  · obtain ⟨u, q1, q2⟩ := c.mem k a m h1 h2
    exact ⟨u, by rw [upd_ne (show a ≠ p from fun e => a0 (by rw [← e]; exact List.mem_of_getElem? h1))]; exact q1, q2⟩
theorem Step.hid {G H G' H' : Hp} {A A' : List Addr} (s : Step G H A G' H' A') {p : Addr} (hp : H p = none) (o : HO) : Step G H A G' (upd H' p o) A' :=
  ⟨s.g, fun a u q hA => by rw [upd_ne (ne_of_none q hp)]; exact s.h a u q hA, s.a, s.f⟩
/-- the hidden object stands through a step -/
theorem Step.hidden {G H G' H' : Hp} {A A' : List Addr} (s : Step G H A G' H' A') {p : Addr} {o : HO} (hp : H p = some o) (g0 : G p = none) (a0 : p ∉ A) : H' p = some o ∧ G' p = none ∧ p ∉ A' := by
  refine ⟨s.h p o hp a0, ?_, fun hm => ?_⟩
  · cases q : G' p with
    | none => rfl
    | some u =>
      rcases s.f p u q with z | z
      · rw [g0] at z; cases z
      · rw [hp] at z; cases z
  · obtain ⟨t, e, ht⟩ := s.a
    rw [e] at hm
    rcases List.mem_append.mp hm with z | z
    · exact a0 z
    · rw [ht p z] at hp; cases hp
/-- the hidden list becomes data, or owned -/
theorem LnkV.unhid {G H G1 H1 : Hp} {A A1 : List Addr} {o : Bool} {RW : W → List M → Prop} {Q : VK} (l : LnkV K G H A RW Q) {p : Addr} (hp : H p = none) (st : Step G H A G1 H1 A1) {μ1 : List M} (c1 : Con K G1 H1 A1 μ1) {vs : List V} {xs : List DL.D} (h1 : H1 p = some (.lst vs)) (g0 : G1 p = none) (a0 : p ∉ A1)
    (r : Reps K G1 vs xs) (h : mkL o RW xs μ1) : Q (.ref p) H1 := by
  cases o with
  | false =>
    have eg : Ex G1 (upd G1 p (.lst vs)) := Ex.new g0
    refine l _ (.val (.lst xs)) (upd G1 p (.lst vs)) H1 A1 μ1 ⟨st.g.trans eg, st.h, st.a, fun x u q => ?_⟩ ⟨fun a u q => ?_, c1.len, fun k a m e1 e2 => let ⟨u, q1, q2⟩ := c1.mem k a m e1 e2; ⟨u, q1, q2.mono eg⟩, c1.nd, fun a ha => ?_⟩ (Rep.lst upd_same (r.mono eg)) h
    · by_cases e : x = p
      · subst e; exact .inr hp
      · rw [upd_ne e] at q; exact st.f x u q
    · by_cases e : a = p
      · subst e; rw [upd_same] at q; rw [h1]; exact q
      · rw [upd_ne e] at q; exact c1.gh a u q
    · rw [upd_ne (show a ≠ p from fun e => a0 (by rw [← e]; exact ha))]; exact c1.ga a ha
  | true =>
    obtain ⟨t, e, ht⟩ := st.a
    refine l _ (.own μ1.length) G1 H1 (A1 ++ [p]) (μ1 ++ [.ml xs]) ⟨st.g, st.h, ⟨t ++ [p], by rw [e, List.append_assoc], fun x hx => ?_⟩, st.f⟩ ⟨c1.gh, by simp [c1.len], fun k a m' e1 e2 => ?_, List.nodup_append.mpr ⟨c1.nd, by simp, fun a ha b hb z => a0 (by rw [List.mem_singleton.mp hb] at z; rw [← z]; exact ha)⟩, fun a ha => ?_⟩ ⟨p, by rw [← c1.len]; simp, rfl⟩ (show RW (.own μ1.length) (μ1 ++ [.ml xs]) from h)
    · rcases List.mem_append.mp hx with z | z
      · exact ht x z
      · rw [List.mem_singleton.mp z]; exact hp
    · by_cases hk : k < A1.length
      · rw [List.getElem?_append_left hk] at e1
        rw [List.getElem?_append_left (by rw [← c1.len]; exact hk)] at e2
        exact c1.mem k a m' e1 e2
      · have ek : k = A1.length := by
          have := (List.getElem?_eq_some_iff.mp e1).1
          simp at this; omega
        subst ek
        have e3 : p = a := by simpa using e1
        have e4 : M.ml xs = m' := by rw [c1.len] at e2; simpa using e2
        subst e3 e4
        exact ⟨_, h1, _, rfl, r⟩
    · rcases List.mem_append.mp ha with z | z
      · exact c1.ga a z
      · rw [List.mem_singleton.mp z]; exact g0
theorem ev_lc {vs : List Nat} (o : Bool) (h : EvI K ti δ μ fun xs keep μ1 => xs.length ≤ 40000 ∧ ∃ P : Nat → List DL.D → List M → Prop, P 0 [] μ1 ∧ (∀ i acc μ', i ≤ xs.length → P i acc μ' → keep μ') ∧
      (∀ i d acc μ', xs[i]? = some d → acc.length ≤ i → P i acc μ' → EvC K g vs (.val d) (wipeD δ vs) μ' fun δ2 μ2 => EvT K tt δ2 μ2 fun b μ3 => (b = true → EvE K te δ2 μ3 fun w μ4 => ∃ d, w = .val d ∧ P (i + 1) (acc ++ [d]) μ4) ∧ (b = false → P (i + 1) acc μ3)) ∧
      ∀ acc μ', P xs.length acc μ' → mkL o RW acc μ') : EvE K (tLc ti g tt te vs) δ μ RW := fun G H A σ c s Q l => by
  refine h G H A σ c s _ fun J xs keep G1 H1 A1 μ1 s1 c1 hJ ⟨hz, P, p0, pk, pt, pd⟩ L hL => ?_
  obtain ⟨Gd, Y, wk, hg, hy⟩ := hJ
  have l1 := l.step c1 s1
  obtain ⟨gL, aL⟩ := c1.fresh hL
  refine lc_it wk (fun i H' => ∃ acc vals G' A' μ', Step G1 H1 A1 G' H' A' ∧ Con K G' H' A' μ' ∧ H' L = some (.lst vals) ∧ G' L = none ∧ L ∉ A' ∧ Reps K G' vals acc ∧ acc.length ≤ i ∧ P i acc μ')
    ⟨[], [], G1, A1, μ1, Step.refl.hid hL _, c1.hid gL aL _, upd_same, gL, aL, .nil, Nat.le_refl _, p0⟩ ?_ ?_ ?_
  · rintro i H' hi ⟨acc, vals, G', A', μ', st, c', _, _, _, _, _, hP⟩
    exact hg G' H' A' μ' st c' (pk i acc μ' hi hP)
  · rintro i x H' H'' hi ⟨acc, vals, G', A', μ', st, c', hL', gL', aL', rv, hacc, hP⟩ y
    have hx : xs[i]? = some xs[i] := List.getElem?_eq_getElem hi
    obtain ⟨G2, s2, c2, r2⟩ := hy i _ G' H' A' μ' x H'' hx st c' (pk i acc μ' (Nat.le_of_lt hi) hP) y
    have st2 := st.trans c' s2
    obtain ⟨hL2, gL2, aL2⟩ := s2.hidden hL' gL' aL'
    refine pt i _ acc μ' hx hacc hP G2 H'' A' (L2.wipe σ vs) x c2 (((s.step s1).step st2).wipe vs) r2 _ fun σ3 δ3 G3 H3 A3 μ3 e3 s3 c3 r3 h3 => ?_
    have ww : L2.wipe (L2.wipe σ vs) vs = L2.wipe σ vs := by
      have ap : ∀ (us : List Nat) (τ : L2.St), (∀ u ∈ us, τ.set u none = τ) → L2.wipe τ us = τ := by
        intro us
        induction us with
        | nil => intro τ _; rfl
        | cons u r ih =>
          intro τ h
          show (L2.wipe τ r).set u none = τ
          rw [ih τ fun z hz => h z (List.mem_cons_of_mem _ hz)]
          exact h u List.mem_cons_self
      have inn : ∀ (us : List Nat) (τ : L2.St), ∀ u ∈ us, (L2.wipe τ us).set u none = L2.wipe τ us := by
        intro us
        induction us with
        | nil => intro τ u hu; cases hu
        | cons z r ih =>
          intro τ u hu
          show ((L2.wipe τ r).set z none).set u none = (L2.wipe τ r).set z none
          by_cases e : u = z
          · subst e; rw [List.set_set]
          · have hr : u ∈ r := (List.mem_cons.mp hu).resolve_left e
            rw [List.set_comm _ _ (Ne.symm e), ih τ u hr]
      exact ap vs _ (inn vs σ)
    refine ⟨e3.trans ww, ?_⟩
    obtain ⟨hL3, gL3, aL3⟩ := s3.hidden hL2 gL2 aL2
    have st3 := st2.trans c2 s3
    refine h3 G3 H3 A3 σ3 c3 r3 _ fun b G4 H4 A4 μ4 s4 c4 h4 => ?_
    obtain ⟨hL4, gL4, aL4⟩ := s4.hidden hL3 gL3 aL3
    have st4 := st3.trans c3 s4
    cases b with
    | false =>
      rw [if_neg Bool.false_ne_true]
      exact ⟨acc, vals, G4, A4, μ4, st4, c4, hL4, gL4, aL4, rv.mono ((s2.g.trans s3.g).trans s4.g), Nat.le_succ_of_le hacc, h4.2 rfl⟩
    | true =>
      rw [if_pos rfl]
      refine h4.1 rfl G4 H4 A4 σ3 c4 (r3.step s4) _ fun v5 w5 G5 H5 A5 μ5 s5 c5 r5 h5 => ?_
      obtain ⟨d, rfl, hP5⟩ := h5
      obtain ⟨hL5, gL5, aL5⟩ := s5.hidden hL4 gL4 aL4
      have st5 := st4.trans c4 s5
      refine ⟨vals, hL5, Evl.sz_lt (by rw [rv.length]; omega), acc ++ [d], vals ++ [v5], G5, A5, μ5, st5.hid hL _, c5.hid gL5 aL5 _, upd_same, gL5, aL5, (rv.mono (((s2.g.trans s3.g).trans s4.g).trans s5.g)).append (.one r5), by simp; omega, hP5⟩
  · rintro H' ⟨acc, vals, G', A', μ', st, c', hL', gL', aL', rv, hacc, hP⟩
    exact l1.unhid hL st c' hL' gL' aL' rv (pd acc μ' hP)
theorem et_yes {RB : Bool → List M → Prop} (h : RB true μ) : EvT K tYes δ μ RB := fun G H A σ c s Q l => l.now c h
end
end DL
set_option Elab.async false
set_option linter.all false
set_option maxRecDepth 100000
set_option maxHeartbeats 2000000
/-! DL3: the rules by the text's constructs. -/
namespace DL
open PySem PySem.Spec PyProof.Rows L2
open Evl (Ex)

/-! ### what the code does, as a reading -/
section
variable (X : Cx)
def wE (e : Expr) : TE := fun σ H Q => ∀ pins s, Inv X pins σ H s → wpAny (model X.prog X.w) X.A (eval e X.env) (EP X pins σ Q) X.xe s
def wT (e : Expr) : TT := fun σ H Q => ∀ pins s, Inv X pins σ H s → wpAny (model X.prog X.w) X.A (isTrue e X.env (eval e X.env)) (TP X pins σ Q) X.xe s
def wW (e : Expr) : TT := fun σ H Q => ∀ (whole : Sem Value) pins s, Inv X pins σ H s → wpAny (model X.prog X.w) X.A (isTrue e X.env whole) (TP X pins σ Q) X.xe s
def wA (es : List Expr) : TA := fun σ H Q => ∀ (pos : Pos) pins s, Inv X pins σ H s → wpAny (model X.prog X.w) X.A (spliced (backTo pos (starEach es X.env))) (AP X pins σ Q) X.xe s
def wS (st : Stmt) : TS := fun D σ H => ∀ pins s, Inv X pins σ H s → wpAny (model X.prog X.w) X.A (exec st X.env) (SP X pins D) X.xe s
def wSs (st : List Stmt) : TS := fun D σ H => ∀ pins s, Inv X pins σ H s → wpAny (model X.prog X.w) X.A (execs st X.env) (SP X pins D) X.xe s
def wG (tg : Expr) : TG := fun v σ H Q => ∀ pins s u, Inv X pins σ H s → RelV v u → wpAny (model X.prog X.w) X.A (assign tg X.env u) (fun _ s' => ∃ σ' H', Inv X pins σ' H' s' ∧ Q σ' H') X.xe s
def wI (tg iter : Expr) : TI := fun σ H R => ∀ pins s, Inv X pins σ H s → wpAny (model X.prog X.w) X.A (eval iter X.env) (fun v s1 => wpAny (model X.prog X.w) X.A (pyIter v) (PIE X pins σ tg R) X.xe s1) X.xe s
def wO (e : Option Expr) : TO := fun σ H Q => ∀ pins s, Inv X pins σ H s → wpAny (model X.prog X.w) X.A (evalPart e X.env) (fun u s' => ∃ o H', Inv X pins σ H' s' ∧ IsPart u o ∧ Q o H') X.xe s
end
section
variable {X : Cx} {e : Expr} {es : List Expr} {st : Stmt} {sts : List Stmt} {tg iter : Expr} {oe : Option Expr}
theorem pe_w : PE X e (wE X e) := ⟨fun pins s σ H Q I h => h pins s I⟩
theorem pt_w : PT X e (wT X e) := ⟨fun pins s σ H Q I h => h pins s I⟩
theorem pw_w : PW X e (wW X e) := ⟨fun wh pins s σ H Q I h => h wh pins s I⟩
theorem pa_w : PA X es (wA X es) := ⟨fun pos pins s σ H Q I h => h pos pins s I⟩
theorem ps_w : PS X st (wS X st) := ⟨fun pins s σ H D I h => h pins s I⟩
theorem pss_w : PSs X sts (wSs X sts) := ⟨fun pins s σ H D I h => h pins s I⟩
theorem pg_w : PG X tg (wG X tg) := ⟨fun pins s σ H v u Q I r h => h pins s u I r⟩
theorem pi_w : PI X tg iter (wI X tg iter) := ⟨fun pins s σ H R I h => h pins s I⟩
theorem po_w : PO X oe (wO X oe) := ⟨fun pins s σ H Q I h => h pins s I⟩
end
section
variable (X : Cx)
def WE (e : Expr) (δ : DS) (μ : List M) (R : W → List M → Prop) : Prop := EvE X.K (wE X e) δ μ R
def WT (e : Expr) (δ : DS) (μ : List M) (R : Bool → List M → Prop) : Prop := EvT X.K (wT X e) δ μ R
def WW (e : Expr) (δ : DS) (μ : List M) (R : Bool → List M → Prop) : Prop := EvT X.K (wW X e) δ μ R
def WA (es : List Expr) (δ : DS) (μ : List M) (R : List W → List M → Prop) : Prop := EvA X.K (wA X es) δ μ R
def WS (st : Stmt) (δ : DS) (μ : List M) (D : DE) : Prop := EvS X.K (wS X st) δ μ D
def WSs (sts : List Stmt) (δ : DS) (μ : List M) (D : DE) : Prop := EvS X.K (wSs X sts) δ μ D
def WG (tg : Expr) (w : W) (δ : DS) (μ : List M) (P : DS → List M → Prop) : Prop := EvG X.K (wG X tg) w δ μ P
def WI (tg iter : Expr) (δ : DS) (μ : List M) (R : List D → (List M → Prop) → List M → Prop) : Prop := EvI X.K (wI X tg iter) δ μ R
def WO (e : Option Expr) (δ : DS) (μ : List M) (R : Option Int → List M → Prop) : Prop := EvO X.K (wO X e) δ μ R
end
section
variable {X : Cx} {e : Expr} {es : List Expr} {st : Stmt} {sts : List Stmt} {tg iter : Expr} {oe : Option Expr} {δ : DS} {μ : List M}
theorem WE.of {t : TE} {R : W → List M → Prop} (hp : PE X e t) (h : EvE X.K t δ μ R) : WE X e δ μ R := fun G H A σ c s Q l pins s' I => hp.run pins s' σ H Q I (h G H A σ c s Q l)
theorem WT.of {t : TT} {R : Bool → List M → Prop} (hp : PT X e t) (h : EvT X.K t δ μ R) : WT X e δ μ R := fun G H A σ c s Q l pins s' I => hp.run pins s' σ H Q I (h G H A σ c s Q l)
theorem WW.of {t : TT} {R : Bool → List M → Prop} (hp : PW X e t) (h : EvT X.K t δ μ R) : WW X e δ μ R := fun G H A σ c s Q l wh pins s' I => hp.run wh pins s' σ H Q I (h G H A σ c s Q l)
theorem WA.of {t : TA} {R : List W → List M → Prop} (hp : PA X es t) (h : EvA X.K t δ μ R) : WA X es δ μ R := fun G H A σ c s Q l pos pins s' I => hp.run pos pins s' σ H Q I (h G H A σ c s Q l)
theorem WS.of {t : TS} {D : DE} (hp : PS X st t) (h : EvS X.K t δ μ D) : WS X st δ μ D := fun G H A σ c s E l pins s' I => hp.run pins s' σ H E I (h G H A σ c s E l)
theorem WSs.of {t : TS} {D : DE} (hp : PSs X sts t) (h : EvS X.K t δ μ D) : WSs X sts δ μ D := fun G H A σ c s E l pins s' I => hp.run pins s' σ H E I (h G H A σ c s E l)
theorem WG.of {t : TG} {w : W} {P : DS → List M → Prop} (hp : PG X tg t) (h : EvG X.K t w δ μ P) : WG X tg w δ μ P := fun G H A σ v c s r Q l pins s' u I ru => hp.run pins s' σ H v u Q I ru (h G H A σ v c s r Q l)
theorem WI.of {t : TI} {R : List D → (List M → Prop) → List M → Prop} (hp : PI X tg iter t) (h : EvI X.K t δ μ R) : WI X tg iter δ μ R := fun G H A σ c s Q l pins s' I => hp.run pins s' σ H Q I (h G H A σ c s Q l)
theorem WO.of {t : TO} {R : Option Int → List M → Prop} (hp : PO X oe t) (h : EvO X.K t δ μ R) : WO X oe δ μ R := fun G H A σ c s Q l pins s' I => hp.run pins s' σ H Q I (h G H A σ c s Q l)
theorem EvE.mono {K : PySem.W.Frag} {t : TE} {R R' : W → List M → Prop} (h : EvE K t δ μ R) (hr : ∀ w μ', R w μ' → R' w μ') : EvE K t δ μ R' := fun G H A σ c s Q l => h G H A σ c s Q fun v w G' H' A' μ' st c' r q => l v w G' H' A' μ' st c' r (hr w μ' q)
theorem EvA.mono {K : PySem.W.Frag} {t : TA} {R R' : List W → List M → Prop} (h : EvA K t δ μ R) (hr : ∀ w μ', R w μ' → R' w μ') : EvA K t δ μ R' := fun G H A σ c s Q l => h G H A σ c s Q fun v w G' H' A' μ' st c' r q => l v w G' H' A' μ' st c' r (hr w μ' q)
theorem WE.mono {R R' : W → List M → Prop} (h : WE X e δ μ R) (hr : ∀ w μ', R w μ' → R' w μ') : WE X e δ μ R' := EvE.mono h hr
end

/-! ### where one stands -/
structure Mo where
  P : Program
  w : World
  K : PySem.W.Frag
  mg : Str → Option Value
  base : Heap
def moOf (X : Cx) : Mo := ⟨X.prog, X.w, X.K, X.mg, X.base⟩
structure GX (X : Cx) (sc : Scope) (N : List Str) : Prop where
  n : X.N = N
  esc : X.env.scope = sc
  kind : sc.kind = .function
  calm : X.calm = true
  nd : N.Nodup
  xe : X.xe = fun _ _ => False
/-- a def's own frame -/
def FX (X : Cx) : Prop := ∀ x, X.fn x = true
section
variable {X : Cx} {sc : Scope} {N : List Str}
theorem GX.gl (G : GX X sc N) {x : Str} (h : sc.names.lookup x = some .globalImplicit) : Gl X x := by
  unfold Gl Env.kindOf
  rw [G.esc]
  exact h
theorem GX.never (G : GX X sc N) : PassesOwn (model X.prog X.w) X.A X.env X.xe := by
  rw [G.xe]
  exact PassesOwn.never
theorem GX.ndX (G : GX X sc N) : X.N.Nodup := by rw [G.n]; exact G.nd
theorem GX.envE (G : GX X sc N) {p : Env → Prop} (h : ∀ env : Env, env.scope = sc → p env) : p X.env := h X.env G.esc
theorem GX.pg (G : GX X sc N) (fx : FX X) {i : Nat} {x : Str} {pos : Pos} (hi : N[i]? = some x) (hx : Loc sc x) : PG X (.Name x pos) (gName i) :=
  pg_name G.ndX (by rw [G.n]; exact hi) (by rw [G.esc]; exact hx) (.inl (fx x))
end

/-! ### names, constants -/
section
variable {X : Cx} {sc : Scope} {N : List Str} {δ : DS} {μ : List M} {R : W → List M → Prop} {a b c e : Expr} {es : List Expr} {pos p : Pos}
theorem x_v (G : GX X sc N) (i : Nat) {x : Str} {w : W} (h : R w μ) (hN : N[i]? = some x := by rfl) (hv : Vis sc x := by first | exact Or.inl rfl | exact Or.inr (Or.inl rfl) | exact Or.inr (Or.inr rfl)) (hδ : δ[i]? = some (some w) := by rfl)
    (hd : (x == ("__debug__" : Str)) = false := by decide) (hcd : (x == ("__classdict__" : Str)) = false := by decide) : WE X (.Name x pos) δ μ R :=
  .of (pe_var (i := i) (by rw [G.n]; exact hN) (by rw [G.esc]; exact hv) hd hcd) (ev_var hδ h)
theorem x_int {i : Int} {j} (h : R (.val (.int i)) μ) : WE X (.Constant (.int i) j pos) δ μ R := .of pe_int (ev_c (fun _ => .int i) h)
theorem x_bl {i : Bool} {j} (h : R (.val (.bl i)) μ) : WE X (.Constant (.bool i) j pos) δ μ R := .of pe_bl (ev_c (fun _ => .bl i) h)
theorem x_str {i : Str} {j} (h : R (.val (.str i)) μ) : WE X (.Constant (.str i) j pos) δ μ R := .of pe_str (ev_c (fun _ => .str i) h)
theorem x_non {j} (h : R (.val .non) μ) : WE X (.Constant .none j pos) δ μ R := .of pe_non (ev_c (fun _ => .non) h)
theorem x_gint (G : GX X sc N) {x : Str} {i : Int} (hm : ∃ t, (moOf X).mg x = some (.int i t)) (h : R (.val (.int i)) μ) (hg : sc.names.lookup x = some .globalImplicit := by rfl) (hd : (x == ("__debug__" : Str)) = false := by decide) : WE X (.Name x pos) δ μ R := by
  obtain ⟨t, hm⟩ := hm
  exact .of (pe_glob (v := .int i) (G.gl hg) hm ⟨t, rfl⟩ hd) (ev_c (fun _ => .int i) h)
theorem x_gstr (G : GX X sc N) {x : Str} {i : Str} (hm : ∃ t, (moOf X).mg x = some (.str i t)) (h : R (.val (.str i)) μ) (hg : sc.names.lookup x = some .globalImplicit := by rfl) (hd : (x == ("__debug__" : Str)) = false := by decide) : WE X (.Name x pos) δ μ R := by
  obtain ⟨t, hm⟩ := hm
  exact .of (pe_glob (v := .str i) (G.gl hg) hm ⟨t, rfl⟩ hd) (ev_c (fun _ => .str i) h)
/-! ### arguments, displays -/
theorem a_nil {RL : List W → List M → Prop} (h : RL [] μ) : WA X [] δ μ RL := .of pa_nil (ea_nil h)
theorem a_cons {RL : List W → List M → Prop} (h : WE X e δ μ fun w μ1 => WA X es δ μ1 fun ws μ2 => RL (w :: ws) μ2) (hs : starEach (e :: es) X.env = (false, eval e X.env) :: starEach es X.env := by rfl) : WA X (e :: es) δ μ RL := .of (pa_cons pe_w pa_w hs) (ea_cons h)
theorem x_tup {k} (h : WA X es δ μ fun ws μ1 => ∃ ds : List D, ws = ds.map W.val ∧ ds.length ≤ 100000 ∧ R (.val (.tup ds)) μ1) : WE X (.Tuple es k pos) δ μ R := .of (pe_tup pa_w) (ev_tup h)
theorem x_lst (h : WA X es δ μ fun ws μ1 => ∃ ds : List D, ws = ds.map W.val ∧ ds.length ≤ 100000 ∧ R (.val (.lst ds)) μ1) : WE X (.List es pos) δ μ R := .of (pe_lst pa_w) (ev_lst h)
theorem x_lstO (h : WA X es δ μ fun ws μ1 => ∃ ds : List D, ws = ds.map W.val ∧ ds.length ≤ 100000 ∧ R (.own μ1.length) (μ1 ++ [.ml ds])) : WE X (.List es pos) δ μ R := .of (pe_lst pa_w) (ev_lstO h)
/-! ### operators -/
theorem x_op {op : Operator} {r : R2} (ho : OpR X (binaryOp op) r) (h : WE X a δ μ fun w1 μ1 => WE X b δ μ1 fun w2 μ2 => RV2 X.K r w1 w2 μ2 R) : WE X (.BinOp a op b pos) δ μ R := .of (pe_op ho pe_w pe_w) (ev_op h)
theorem x_un {op : UnaryOp} {r : V → Hp → VK → Prop} (ho : UnR X (unaryOp op) r) (h : WE X a δ μ fun w1 μ1 => RV1 X.K r w1 μ1 R) : WE X (.UnaryOp op a pos) δ μ R := .of (pe_un ho pe_w) (ev_un h)
theorem x_cmp {op : CmpOp} {r : R2} (ho : OpR X (compareOp op) r) (hm : behindInMarks op b = false) (h : WE X a δ μ fun w1 μ1 => WE X b δ μ1 fun w2 μ2 => RV2 X.K r w1 w2 μ2 R) : WE X (.Compare a [op] [b] pos) δ μ R := .of (pe_cmpR ho pe_w pe_w hm) (ev_op h)
theorem t_cmp {op : CmpOp} {r : R2} {RB : Bool → List M → Prop} (ho : OpR X (compareOp op) r) (hm : behindInMarks op b = false) (h : WE X a δ μ fun w1 μ1 => WE X b δ μ1 fun w2 μ2 => RV2 X.K r w1 w2 μ2 fun w μ3 => ∃ k, w = .val (.bl k) ∧ RB k μ3) : WT X (.Compare a [op] [b] pos) δ μ RB := .of (pt_cmpR ho pe_w pe_w hm) (et_test (ev_op h))
theorem x_chain {op op' : CmpOp} {r r' : R2} (ho : OpR X (compareOp op) r) (ho' : OpR X (compareOp op') r') (h1 : PE X (.Compare a [op, op'] [b, c] pos) (tChain r r' (wE X a) (wE X b) (wE X c)))
    (h : WE X a δ μ fun w1 μ1 => WE X b δ μ1 fun w2 μ2 => RV2 X.K r w1 w2 μ2 fun z μ3 => ∃ k, z = .val (.bl k) ∧ (k = true → WE X c δ μ3 fun w3 μ4 => RV2 X.K r' w2 w3 μ4 R) ∧ (k = false → R (.val (.bl false)) μ3)) : WE X (.Compare a [op, op'] [b, c] pos) δ μ R := .of h1 (ev_chain h)
/-- by values -/
theorem v_I0 {g : Int → Int → V} {d : Int → Int → D} {i j : Int} {K : PySem.W.Frag} (hg : ∀ G, Rep K G (g i j) (d i j)) (h : R (.val (d i j)) μ) : RV2 K (rI0 g) (.val (.int i)) (.val (.int j)) μ R := fun G H A v1 v2 c r1 r2 Q l => by
  cases r1; cases r2
  exact ⟨i, j, rfl, rfl, l.now (w := .val (d i j)) c (hg G) h⟩
theorem v_I {C : Int → Int → Prop} {g : Int → Int → V} {d : Int → Int → D} {i j : Int} {K : PySem.W.Frag} (hc : C i j) (hg : ∀ G, Rep K G (g i j) (d i j)) (h : R (.val (d i j)) μ) : RV2 K (rI C g) (.val (.int i)) (.val (.int j)) μ R := fun G H A v1 v2 c r1 r2 Q l => by
  cases r1; cases r2
  exact ⟨i, j, rfl, rfl, hc, l.now (w := .val (d i j)) c (hg G) h⟩
/-- both are ints -/
def II (w1 w2 : W) (P : Int → Int → Prop) : Prop := ∃ i j, w1 = .val (.int i) ∧ w2 = .val (.int j) ∧ P i j
theorem ii {i j : Int} {P : Int → Int → Prop} (h : P i j) : II (.val (.int i)) (.val (.int j)) P := ⟨i, j, rfl, rfl, h⟩
theorem x_add (h : WE X a δ μ fun w1 μ1 => WE X b δ μ1 fun w2 μ2 => II w1 w2 fun i j => R (.val (.int (i + j))) μ2) : WE X (.BinOp a .Add b pos) δ μ R :=
  x_op op_add (h.mono fun _ _ h1 => h1.mono fun _ _ ⟨i, j, e1, e2, h2⟩ => by subst e1 e2; exact v_I0 (d := fun i j => .int (i + j)) (fun _ => .int _) h2)
theorem x_sub (h : WE X a δ μ fun w1 μ1 => WE X b δ μ1 fun w2 μ2 => II w1 w2 fun i j => R (.val (.int (i - j))) μ2) : WE X (.BinOp a .Sub b pos) δ μ R :=
  x_op op_sub (h.mono fun _ _ h1 => h1.mono fun _ _ ⟨i, j, e1, e2, h2⟩ => by subst e1 e2; exact v_I0 (d := fun i j => .int (i - j)) (fun _ => .int _) h2)
theorem x_mul (h : WE X a δ μ fun w1 μ1 => WE X b δ μ1 fun w2 μ2 => II w1 w2 fun i j => CMul i j ∧ R (.val (.int (i * j))) μ2) : WE X (.BinOp a .Mult b pos) δ μ R :=
  x_op op_mul (h.mono fun _ _ h1 => h1.mono fun _ _ ⟨i, j, e1, e2, hc, h2⟩ => by subst e1 e2; exact v_I (d := fun i j => .int (i * j)) hc (fun _ => .int _) h2)
theorem x_mulW (h : WE X a δ μ fun w1 μ1 => WE X b δ μ1 fun w2 μ2 => II w1 w2 fun i j => CMulW i j ∧ R (.val (.int (i * j))) μ2) : WE X (.BinOp a .Mult b pos) δ μ R :=
  x_op op_mulW (h.mono fun _ _ h1 => h1.mono fun _ _ ⟨i, j, e1, e2, hc, h2⟩ => by subst e1 e2; exact v_I (d := fun i j => .int (i * j)) hc (fun _ => .int _) h2)
theorem x_fdiv (h : WE X a δ μ fun w1 μ1 => WE X b δ μ1 fun w2 μ2 => II w1 w2 fun i j => CDiv i j ∧ R (.val (.int (i / j))) μ2) : WE X (.BinOp a .FloorDiv b pos) δ μ R :=
  x_op op_fdiv (h.mono fun _ _ h1 => h1.mono fun _ _ ⟨i, j, e1, e2, hc, h2⟩ => by subst e1 e2; exact v_I (d := fun i j => .int (i / j)) hc (fun _ => .int _) h2)
theorem x_mod (h : WE X a δ μ fun w1 μ1 => WE X b δ μ1 fun w2 μ2 => II w1 w2 fun i j => 0 < j ∧ R (.val (.int (i % j))) μ2) : WE X (.BinOp a .Mod b pos) δ μ R :=
  x_op op_mod (h.mono fun _ _ h1 => h1.mono fun _ _ ⟨i, j, e1, e2, hc, h2⟩ => by subst e1 e2; exact v_I (C := fun _ j => 0 < j) (d := fun i j => .int (i % j)) hc (fun _ => .int _) h2)
theorem x_pow (h : WE X a δ μ fun w1 μ1 => WE X b δ μ1 fun w2 μ2 => II w1 w2 fun i j => CPow i j ∧ R (.val (.int (i ^ j.toNat))) μ2) : WE X (.BinOp a .Pow b pos) δ μ R :=
  x_op op_pow (h.mono fun _ _ h1 => h1.mono fun _ _ ⟨i, j, e1, e2, hc, h2⟩ => by subst e1 e2; exact v_I (d := fun i j => .int (i ^ j.toNat)) hc (fun _ => .int _) h2)
theorem x_neg (h : WE X a δ μ fun w μ1 => ∃ i, w = .val (.int i) ∧ R (.val (.int (-i))) μ1) : WE X (.UnaryOp .USub a pos) δ μ R :=
  x_un un_neg (h.mono fun _ _ ⟨i, e, h⟩ => by subst e; exact fun G H A v c r Q l => by cases r; exact ⟨i, rfl, l.now (w := .val (.int (-i))) c (Rep.int _) h⟩)
/-! ### comparisons of ints -/
theorem x_lt (h : WE X a δ μ fun w1 μ1 => WE X b δ μ1 fun w2 μ2 => II w1 w2 fun i j => R (.val (.bl (decide (i < j)))) μ2) : WE X (.Compare a [.Lt] [b] pos) δ μ R :=
  x_cmp op_lt (nomark _) (h.mono fun _ _ h1 => h1.mono fun _ _ ⟨i, j, e1, e2, h2⟩ => by subst e1 e2; exact v_I0 (d := fun i j => .bl (decide (i < j))) (fun _ => .bl _) h2)
theorem x_le (h : WE X a δ μ fun w1 μ1 => WE X b δ μ1 fun w2 μ2 => II w1 w2 fun i j => R (.val (.bl (decide (i ≤ j)))) μ2) : WE X (.Compare a [.LtE] [b] pos) δ μ R :=
  x_cmp op_le (nomark _) (h.mono fun _ _ h1 => h1.mono fun _ _ ⟨i, j, e1, e2, h2⟩ => by subst e1 e2; exact v_I0 (d := fun i j => .bl (decide (i ≤ j))) (fun _ => .bl _) h2)
theorem x_lele (h : WE X a δ μ fun w1 μ1 => WE X b δ μ1 fun w2 μ2 => II w1 w2 fun i j => (i ≤ j → WE X c δ μ2 fun w3 μ3 => ∃ k, w3 = .val (.int k) ∧ R (.val (.bl (decide (j ≤ k)))) μ3) ∧ (¬ i ≤ j → R (.val (.bl false)) μ2)) (hm : lastMarks [CmpOp.LtE, CmpOp.LtE] [b, c] = false := by rfl) : WE X (.Compare a [.LtE, .LtE] [b, c] pos) δ μ R :=
  x_chain op_le op_le (pe_chain op_le op_le pe_w pe_w pe_w hm) (h.mono fun _ _ h => h.mono fun _ _ ⟨i, j, e1, e2, h1, h2⟩ => by
    subst e1 e2
    refine v_I0 (d := fun i j => .bl (decide (i ≤ j))) (fun _ => .bl _) ⟨_, rfl, fun k => ?_, fun k => h2 (of_decide_eq_false k)⟩
    exact (h1 (of_decide_eq_true k)).mono fun _ _ ⟨m, e, h⟩ => by subst e; exact v_I0 (d := fun i j => .bl (decide (i ≤ j))) (fun _ => .bl _) h)
theorem t_lele {RB : Bool → List M → Prop} (h : WE X a δ μ fun w1 μ1 => WE X b δ μ1 fun w2 μ2 => II w1 w2 fun i j => (i ≤ j → WE X c δ μ2 fun w3 μ3 => ∃ k, w3 = .val (.int k) ∧ RB (decide (j ≤ k)) μ3) ∧ (¬ i ≤ j → RB false μ2)) (hm : lastMarks [CmpOp.LtE, CmpOp.LtE] [b, c] = false := by rfl) : WT X (.Compare a [.LtE, .LtE] [b, c] pos) δ μ RB :=
  .of (pt_chain op_le op_le pe_w pe_w pe_w hm) (et_test (ev_chain (EvE.mono h fun _ _ h => EvE.mono h fun _ _ ⟨i, j, e1, e2, h1, h2⟩ => by
    subst e1 e2
    refine v_I0 (d := fun i j => .bl (decide (i ≤ j))) (fun _ => .bl _) ⟨_, rfl, fun k => ?_, fun k => ⟨_, rfl, h2 (of_decide_eq_false k)⟩⟩
    exact EvE.mono (h1 (of_decide_eq_true k)) fun _ _ ⟨m, e, h⟩ => by subst e; exact v_I0 (d := fun i j => .bl (decide (i ≤ j))) (fun _ => .bl _) ⟨_, rfl, h⟩)))
variable {RB : Bool → List M → Prop}
theorem t_lt (h : WE X a δ μ fun w1 μ1 => WE X b δ μ1 fun w2 μ2 => II w1 w2 fun i j => RB (decide (i < j)) μ2) : WT X (.Compare a [.Lt] [b] pos) δ μ RB :=
  t_cmp op_lt (nomark _) (h.mono fun _ _ h1 => h1.mono fun _ _ ⟨i, j, e1, e2, h2⟩ => by subst e1 e2; exact v_I0 (d := fun i j => .bl (decide (i < j))) (fun _ => .bl _) ⟨_, rfl, h2⟩)
theorem t_gt (h : WE X a δ μ fun w1 μ1 => WE X b δ μ1 fun w2 μ2 => II w1 w2 fun i j => RB (decide (j < i)) μ2) : WT X (.Compare a [.Gt] [b] pos) δ μ RB :=
  t_cmp op_gt (nomark _) (h.mono fun _ _ h1 => h1.mono fun _ _ ⟨i, j, e1, e2, h2⟩ => by subst e1 e2; exact v_I0 (d := fun i j => .bl (decide (j < i))) (fun _ => .bl _) ⟨_, rfl, h2⟩)
theorem t_ge (h : WE X a δ μ fun w1 μ1 => WE X b δ μ1 fun w2 μ2 => II w1 w2 fun i j => RB (decide (j ≤ i)) μ2) : WT X (.Compare a [.GtE] [b] pos) δ μ RB :=
  t_cmp op_ge (nomark _) (h.mono fun _ _ h1 => h1.mono fun _ _ ⟨i, j, e1, e2, h2⟩ => by subst e1 e2; exact v_I0 (d := fun i j => .bl (decide (j ≤ i))) (fun _ => .bl _) ⟨_, rfl, h2⟩)
/-- == and != of ints, bools, texts -/
inductive Scal : W → W → Bool → Prop
  | int (i j : Int) : Scal (.val (.int i)) (.val (.int j)) (decide (i = j))
  | bl (i j : Bool) : Scal (.val (.bl i)) (.val (.bl j)) (decide (i = j))
  | str (i j : Str) : Scal (.val (.str i)) (.val (.str j)) (decide (i = j))
theorem v_eq {w1 w2 : W} {k : Bool} {K : PySem.W.Frag} (s : Scal w1 w2 k) (h : R (.val (.bl k)) μ) : RV2 K rEq w1 w2 μ R := fun G H A v1 v2 c r1 r2 Q l => by
  cases s with
  | int i j => cases r1; cases r2; exact ⟨rfl, l.now (w := .val (.bl (decide (i = j)))) c (by rw [show decide (V.int i = V.int j) = decide (i = j) by simp]; exact Rep.bl _) h⟩
  | bl i j => cases r1; cases r2; exact ⟨rfl, l.now (w := .val (.bl (decide (i = j)))) c (by rw [show decide (V.bl i = V.bl j) = decide (i = j) by simp]; exact Rep.bl _) h⟩
  | str i j => cases r1; cases r2; exact ⟨rfl, l.now (w := .val (.bl (decide (i = j)))) c (by rw [show decide (V.str i = V.str j) = decide (i = j) by simp]; exact Rep.bl _) h⟩
theorem v_ne {w1 w2 : W} {k : Bool} {K : PySem.W.Frag} (s : Scal w1 w2 k) (h : R (.val (.bl (!k))) μ) : RV2 K rNe w1 w2 μ R := fun G H A v1 v2 c r1 r2 Q l => by
  cases s with
  | int i j => cases r1; cases r2; exact ⟨rfl, l.now (w := .val (.bl (!decide (i = j)))) c (by rw [show decide (V.int i = V.int j) = decide (i = j) by simp]; exact Rep.bl _) h⟩
  | bl i j => cases r1; cases r2; exact ⟨rfl, l.now (w := .val (.bl (!decide (i = j)))) c (by rw [show decide (V.bl i = V.bl j) = decide (i = j) by simp]; exact Rep.bl _) h⟩
  | str i j => cases r1; cases r2; exact ⟨rfl, l.now (w := .val (.bl (!decide (i = j)))) c (by rw [show decide (V.str i = V.str j) = decide (i = j) by simp]; exact Rep.bl _) h⟩
theorem x_eq (h : WE X a δ μ fun w1 μ1 => WE X b δ μ1 fun w2 μ2 => ∃ k, Scal w1 w2 k ∧ R (.val (.bl k)) μ2) : WE X (.Compare a [.Eq] [b] pos) δ μ R :=
  x_cmp op_eq (nomark _) (h.mono fun _ _ h => h.mono fun _ _ ⟨k, s, h⟩ => v_eq s h)
theorem x_ne (h : WE X a δ μ fun w1 μ1 => WE X b δ μ1 fun w2 μ2 => ∃ k, Scal w1 w2 k ∧ R (.val (.bl (!k))) μ2) : WE X (.Compare a [.NotEq] [b] pos) δ μ R :=
  x_cmp op_ne (nomark _) (h.mono fun _ _ h => h.mono fun _ _ ⟨k, s, h⟩ => v_ne s h)
theorem t_eq (h : WE X a δ μ fun w1 μ1 => WE X b δ μ1 fun w2 μ2 => ∃ k, Scal w1 w2 k ∧ RB k μ2) : WT X (.Compare a [.Eq] [b] pos) δ μ RB :=
  t_cmp op_eq (nomark _) (h.mono fun _ _ h => h.mono fun _ _ ⟨k, s, h⟩ => v_eq s ⟨_, rfl, h⟩)
theorem t_ne (h : WE X a δ μ fun w1 μ1 => WE X b δ μ1 fun w2 μ2 => ∃ k, Scal w1 w2 k ∧ RB (!k) μ2) : WT X (.Compare a [.NotEq] [b] pos) δ μ RB :=
  t_cmp op_ne (nomark _) (h.mono fun _ _ h => h.mono fun _ _ ⟨k, s, h⟩ => v_ne s ⟨_, rfl, h⟩)
/-- is None, is not None -/
def isNon : D → Bool
  | .non => true
  | _ => false
theorem rep_non {K : PySem.W.Frag} {G : Hp} {v : V} {d : D} (r : Rep K G v d) : decide (v = .non) = isNon d := by
  cases r <;> first | rfl | exact decide_eq_true rfl | exact decide_eq_false (by intro h; cases h)
theorem v_isN {d : D} {K : PySem.W.Frag} (h : R (.val (.bl (isNon d))) μ) : RV2 K (fun x y H Q => y = .non ∧ Q (.bl (decide (x = .non))) H) (.val d) (.val .non) μ R := fun G H A v1 v2 c r1 r2 Q l => by
  cases r2
  exact ⟨rfl, l.now (w := .val (.bl (isNon d))) c (by rw [rep_non r1]; exact Rep.bl _) h⟩
theorem v_notN {d : D} {K : PySem.W.Frag} (h : R (.val (.bl (!isNon d))) μ) : RV2 K (fun x y H Q => y = .non ∧ Q (.bl (!decide (x = .non))) H) (.val d) (.val .non) μ R := fun G H A v1 v2 c r1 r2 Q l => by
  cases r2
  exact ⟨rfl, l.now (w := .val (.bl (!isNon d))) c (by rw [rep_non r1]; exact Rep.bl _) h⟩
theorem t_isN {j} (h : WE X a δ μ fun w μ1 => ∃ d, w = .val d ∧ RB (isNon d) μ1) : WT X (.Compare a [.Is] [.Constant .none j p] pos) δ μ RB :=
  t_cmp op_isN (nomark _) (h.mono fun _ _ ⟨d, e, h⟩ => by subst e; exact x_non (v_isN ⟨_, rfl, h⟩))
theorem t_notN {j} (h : WE X a δ μ fun w μ1 => ∃ d, w = .val d ∧ RB (!isNon d) μ1) : WT X (.Compare a [.IsNot] [.Constant .none j p] pos) δ μ RB :=
  t_cmp op_notN (nomark _) (h.mono fun _ _ ⟨d, e, h⟩ => by subst e; exact x_non (v_notN ⟨_, rfl, h⟩))
/-! ### and, or, not, if -/
/-- a bool -/
def BB (w : W) (P : Bool → Prop) : Prop := ∃ k, w = .val (.bl k) ∧ P k
theorem bb {k : Bool} {P : Bool → Prop} (h : P k) : BB (.val (.bl k)) P := ⟨k, rfl, h⟩
theorem x_one {op} (h : WE X a δ μ R) : WE X (.BoolOp op [a] pos) δ μ R := .of (pe_one pe_w) h
theorem x_and {rest : List Expr} (h : WE X a δ μ fun w μ1 => BB w fun k => (k = true → WE X (.BoolOp .And (b :: rest) pos) δ μ1 R) ∧ (k = false → R (.val (.bl false)) μ1)) : WE X (.BoolOp .And (a :: b :: rest) pos) δ μ R :=
  .of (pe_and pe_w pe_w) (ev_andV (EvE.mono h fun _ _ ⟨k, e, h1, h2⟩ => ⟨k, e, h1, h2⟩))
theorem x_or {rest : List Expr} (h : WE X a δ μ fun w μ1 => BB w fun k => (k = false → WE X (.BoolOp .Or (b :: rest) pos) δ μ1 R) ∧ (k = true → R (.val (.bl true)) μ1)) : WE X (.BoolOp .Or (a :: b :: rest) pos) δ μ R :=
  .of (pe_or pe_w pe_w) (ev_orV (EvE.mono h fun _ _ ⟨k, e, h1, h2⟩ => ⟨k, e, h1, h2⟩))
theorem x_not (h : WE X a δ μ fun w μ1 => BB w fun k => R (.val (.bl (!k))) μ1) : WE X (.UnaryOp .Not a pos) δ μ R := .of (pe_not pe_w) (ev_notV h)
theorem x_if (h : WT X c δ μ fun k μ1 => (k = true → WE X a δ μ1 R) ∧ (k = false → WE X b δ μ1 R)) : WE X (.IfExp c a b pos) δ μ R := .of (pe_ifExp pt_w pe_w pe_w) (ev_if h)
theorem WT.pw (h : WW X e δ μ RB) : WT X e δ μ RB := .of pw_w.pt h
theorem w_and1 (h : WT X a δ μ RB) : WW X (.BoolOp .And [a] pos) δ μ RB := .of (pw_and1 pt_w) h
theorem w_or1 (h : WT X a δ μ RB) : WW X (.BoolOp .Or [a] pos) δ μ RB := .of (pw_or1 pt_w) h
theorem w_and {rest : List Expr} (h : WT X a δ μ fun k μ1 => (k = true → WW X (.BoolOp .And (b :: rest) pos) δ μ1 RB) ∧ (k = false → RB false μ1)) : WW X (.BoolOp .And (a :: b :: rest) pos) δ μ RB := .of (pw_and pt_w pw_w) (et_and h)
theorem w_or {rest : List Expr} (h : WT X a δ μ fun k μ1 => (k = false → WW X (.BoolOp .Or (b :: rest) pos) δ μ1 RB) ∧ (k = true → RB true μ1)) : WW X (.BoolOp .Or (a :: b :: rest) pos) δ μ RB := .of (pw_or pt_w pw_w) (et_or h)
theorem t_and {rest : List Expr} (h : WT X a δ μ fun k μ1 => (k = true → WW X (.BoolOp .And (b :: rest) pos) δ μ1 RB) ∧ (k = false → RB false μ1)) : WT X (.BoolOp .And (a :: b :: rest) pos) δ μ RB := .of pw_w.pt (w_and h)
theorem t_or {rest : List Expr} (h : WT X a δ μ fun k μ1 => (k = false → WW X (.BoolOp .Or (b :: rest) pos) δ μ1 RB) ∧ (k = true → RB true μ1)) : WT X (.BoolOp .Or (a :: b :: rest) pos) δ μ RB := .of pw_w.pt (w_or h)
theorem t_not (h : WT X a δ μ fun k μ1 => RB (!k) μ1) : WT X (.UnaryOp .Not a pos) δ μ RB := .of (pt_not pt_w) (et_not h)
/-- a test that is a call -/
theorem t_val (h : WE X e δ μ fun w μ1 => BB w fun k => RB k μ1) (he : ∀ whole, isTrue e X.env whole = (do let v ← whole; standAt e.pos; holding [v] (truthy v)) := by intro _; rfl) : WT X e δ μ RB := .of (pt_val pe_w he) (et_B h)
/-! ### subscripts, slices -/
theorem x_ix {r : R2} (hr : IxR X r) (h : WE X a δ μ fun w1 μ1 => WE X b δ μ1 fun w2 μ2 => RV2 X.K r w1 w2 μ2 R) (hs : PlainIx b := by exact fun _ _ => rfl) : WE X (.Subscript a b pos) δ μ R := .of (pe_ix hr pe_w pe_w hs) (ev_op h)
/-- a list: data, the script, an owned one -/
inductive LstW (μ : List M) : W → List D → Prop
  | lst {xs : List D} : LstW μ (.val (.lst xs)) xs
  | sq {xs : List D} : LstW μ (.val (.sq xs)) xs
  | own {k : Nat} {xs : List D} (h : μ[k]? = some (.ml xs)) : LstW μ (.own k) xs
theorem LstW.at_ {K : PySem.W.Frag} {G H : Hp} {A : List Addr} {w : W} {v : V} {xs : List D} (s : LstW μ w xs) (c : Con K G H A μ) (r : RepW K G A v w) : ∃ a vs, v = .ref a ∧ SqL K H a vs ∧ Reps K G vs xs := by
  cases s with
  | lst =>
    cases r with
    | lst h1 h2 => exact ⟨_, _, rfl, SqL.of (c.gh _ _ h1), h2⟩
  | sq =>
    cases r with
    | sq h1 h2 => exact ⟨_, _, rfl, Evl.ex_l c.gh h1, h2⟩
  | own h =>
    obtain ⟨a, vs, rfl, _, h1, h2⟩ := c.ownL h r
    exact ⟨a, vs, rfl, SqL.of h1, h2⟩
/-- a tuple, a list, an owned list -/
inductive SeqW (μ : List M) : W → List D → Prop
  | tup {d : D} {xs : List D} (h : TupD d xs) : SeqW μ (.val d) xs
  | lst {w : W} {xs : List D} (h : LstW μ w xs) : SeqW μ w xs
theorem SeqW.at_ {K : PySem.W.Frag} {G H : Hp} {A : List Addr} {w : W} {v : V} {xs : List D} (s : SeqW μ w xs) (c : Con K G H A μ) (r : RepW K G A v w) : ∃ a vs, v = .ref a ∧ (SqL K H a vs ∨ SqT K H a vs) ∧ Reps K G vs xs := by
  cases s with
  | tup h =>
    obtain ⟨a, vs, rfl, h1, h2⟩ := Rep.tupD r h
    exact ⟨a, vs, rfl, .inr (.inl (Evl.ex_rd c.gh h1)), h2⟩
  | lst h =>
    obtain ⟨a, vs, rfl, h1, h2⟩ := h.at_ c r
    exact ⟨a, vs, rfl, .inl h1, h2⟩
theorem atI_reps {K : PySem.W.Frag} {G : Hp} {vs : List V} {xs : List D} {i : Int} {d : D} (r : Reps K G vs xs) (h : atI xs i = some d) : ∃ v, atI vs i = some v ∧ Rep K G v d := by
  unfold atI at h ⊢
  rw [r.length]
  cases e : ixN xs.length i with
  | none => rw [e] at h; cases h
  | some j =>
    rw [e] at h
    obtain ⟨v, h1, h2⟩ := r.get h
    exact ⟨v, h1, h2⟩
theorem x_at (h : WE X a δ μ fun w1 μ1 => WE X b δ μ1 fun w2 μ2 => ∃ xs i d, SeqW μ2 w1 xs ∧ w2 = .val (.int i) ∧ atI xs i = some d ∧ R (.val d) μ2) (hs : PlainIx b := by exact fun _ _ => rfl) : WE X (.Subscript a b pos) δ μ R :=
  x_ix ix_seq (h.mono fun _ _ h => h.mono fun _ _ ⟨xs, i, d, s, e, ha, h⟩ => by
    subst e
    intro G H A v1 v2 c r1 r2 Q l
    cases r2
    obtain ⟨p, vs, rfl, hq, rs⟩ := s.at_ c r1
    obtain ⟨v, hv, rv⟩ := atI_reps rs ha
    rcases hq with hq | hq
    · exact .inl ⟨p, vs, i, v, rfl, rfl, hq, hv, l.now (w := .val d) c rv h⟩
    · exact .inr (.inl ⟨p, vs, i, v, rfl, rfl, hq, hv, l.now (w := .val d) c rv h⟩)) hs
theorem v_ixS {z : Str} {i : Int} {c : Nat} (hz : z.length ≤ 100000) (ha : atI z.cps.toList i = some c) {K : PySem.W.Frag} (h : R (.val (.str ⟨#[c]⟩)) μ) : RV2 K rIxS (.val (.str z)) (.val (.int i)) μ R := fun G H A v1 v2 c' r1 r2 Q l => by
  cases r1; cases r2
  exact ⟨z, i, c, rfl, rfl, Evl.sz_of hz, ha, l.now (w := .val (.str ⟨#[c]⟩)) c' (Rep.str _) h⟩
/-- t[0] of a text -/
theorem x_atS (h : WE X a δ μ fun w1 μ1 => WE X b δ μ1 fun w2 μ2 => ∃ z i c, w1 = .val (.str z) ∧ w2 = .val (.int i) ∧ z.length ≤ 100000 ∧ atI z.cps.toList i = some c ∧ R (.val (.str ⟨#[c]⟩)) μ2) (hs : PlainIx b := by exact fun _ _ => rfl) : WE X (.Subscript a b pos) δ μ R :=
  x_ix ix_str (h.mono fun _ _ h1 => h1.mono fun _ _ ⟨z, i, d, e1, e2, hz, ha, h2⟩ => by subst e1 e2; exact v_ixS hz ha h2) hs
variable {lo hi : Option Expr} {p2 : Pos}
theorem o_none {RO : Option Int → List M → Prop} (h : RO none μ) : WO X none δ μ RO := .of po_none (eo_none h)
theorem o_some {RO : Option Int → List M → Prop} (h : WE X e δ μ fun w μ1 => ∃ i, w = .val (.int i) ∧ RO (some i) μ1) : WO X (some e) δ μ RO := .of (po_some pe_w) (eo_some h)
/-- what a slice gives -/
def cutD (xs : List D) (lo hi : Option Int) : List D := (xs.drop (HT.sIx xs.length 0 lo)).take (HT.sIx xs.length xs.length hi - HT.sIx xs.length 0 lo)
theorem Reps.cutD {K : PySem.W.Frag} {G : Hp} {vs : List V} {xs : List D} (r : Reps K G vs xs) (lo hi : Option Int) : Reps K G (cutV vs lo hi) (cutD xs lo hi) := r.cut lo hi
theorem EvO.mono {K : PySem.W.Frag} {t : TO} {R R' : Option Int → List M → Prop} (h : EvO K t δ μ R) (hr : ∀ w μ', R w μ' → R' w μ') : EvO K t δ μ R' := fun G H A σ c s Q l => h G H A σ c s Q fun v G' H' A' μ' st c' q => l v G' H' A' μ' st c' (hr v μ' q)
theorem v_slL {K : PySem.W.Frag} {w : W} {xs : List D} {l u : Option Int} (o : Bool) (s : LstW μ w xs) (h : mkL o R (cutD xs l u) μ) : RVS K (rSlL K) w l u μ R := fun G H A v c r Q lk => by
  obtain ⟨p, vs, rfl, hq, rs⟩ := s.at_ c r
  exact ⟨p, vs, rfl, hq, fun q hq => lk.newB c hq (rs.cutD _ _) h⟩
/-- xs[lo:hi] of a list: data or owned -/
theorem x_slL (o : Bool) (h : WE X a δ μ fun w μ1 => WO X lo δ μ1 fun l μ2 => WO X hi δ μ2 fun u μ3 => ∃ xs, LstW μ3 w xs ∧ mkL o R (cutD xs l u) μ3) : WE X (.Subscript a (.Slice lo hi none p2) pos) δ μ R :=
  .of (pe_slice sl_list pe_w po_w po_w) (ev_sl (EvE.mono h fun w _ h => EvO.mono h fun l _ h => EvO.mono h fun u _ ⟨xs, s, h⟩ => v_slL o s h))
/-- t[lo:hi] of a tuple, not the whole -/
theorem v_slT {K : PySem.W.Frag} {d : D} {xs : List D} {l u : Option Int} (s : TupD d xs) (hn : ¬ (HT.sIx xs.length 0 l = 0 ∧ HT.sIx xs.length xs.length u = xs.length)) (h : R (.val (.tup (cutD xs l u))) μ) : RVS K (rSlT K) (.val d) l u μ R := fun G H A v c r Q lk => by
  obtain ⟨a, vs, rfl, h1, rs⟩ := Rep.tupD r s
  exact ⟨a, vs, rfl, .inl (Evl.ex_rd c.gh h1), by rw [rs.length]; exact hn, fun p hp => lk.newT c hp (rs.cutD _ _) h⟩
theorem x_slT (h : WE X a δ μ fun w μ1 => WO X lo δ μ1 fun l μ2 => WO X hi δ μ2 fun u μ3 => ∃ d xs, w = .val d ∧ TupD d xs ∧ ¬ (HT.sIx xs.length 0 l = 0 ∧ HT.sIx xs.length xs.length u = xs.length) ∧ R (.val (.tup (cutD xs l u))) μ3) : WE X (.Subscript a (.Slice lo hi none p2) pos) δ μ R :=
  .of (pe_slice sl_tup pe_w po_w po_w) (ev_sl (EvE.mono h fun w _ h1 => EvO.mono h1 fun l _ h2 => EvO.mono h2 fun u _ ⟨d, xs, e, s, hn, h3⟩ => by subst e; exact v_slT s hn h3))
end
end DL
set_option Elab.async false
set_option linter.all false
set_option maxRecDepth 100000
set_option maxHeartbeats 2000000
/-! DL4: statements, defs, calls, built-ins. -/
namespace DL
open PySem PySem.Spec PyProof.Rows L2
open Evl (Ex)

/-! ### an owned object given out -/
def frz : M → D
  | .ml xs => .lst xs
  | .mK kvs => .dK kvs
  | .mT kvs => .dT kvs
/-- what a def hands back: its own objects become data, or the caller's -/
def RetR (n0 : Nat) (R : W → List M → Prop) : W → List M → Prop
  | .val d, μ => R (.val d) (μ.take n0)
  | .own k, μ => if k < n0 then R (.own k) (μ.take n0) else ∃ m, μ[k]? = some m ∧ (R (.val (frz m)) (μ.take n0) ∨ R (.own n0) (μ.take n0 ++ [m]))
section
variable {K : PySem.W.Frag} {G H G1 H1 : Hp} {A A1 : List Addr} {μ μ1 : List M} {R : W → List M → Prop} {Q : VK}
/-- a hidden new object becomes data -/
theorem LnkV.unhidD (l : LnkV K G H A R Q) {p : Addr} (hp : H p = none) (st : Step G H A G1 H1 A1) (c1 : Con K G1 H1 A1 μ1) {o : HO} {m : M} (h1 : H1 p = some o) (g0 : G1 p = none) (a0 : p ∉ A1) (r : MRep K G1 o m) (h : R (.val (frz m)) μ1) : Q (.ref p) H1 := by
  have eg : Ex G1 (upd G1 p o) := Ex.new g0
  refine l _ (.val (frz m)) (upd G1 p o) H1 A1 μ1 ⟨st.g.trans eg, st.h, st.a, fun x u q => ?_⟩ ⟨fun a u q => ?_, c1.len, fun k a m e1 e2 => let ⟨u, q1, q2⟩ := c1.mem k a m e1 e2; ⟨u, q1, q2.mono eg⟩, c1.nd, fun a ha => ?_⟩ ?_ h
  · by_cases e : x = p
    · subst e; exact .inr hp
    · rw [upd_ne e] at q; exact st.f x u q
  · by_cases e : a = p
    · subst e; rw [upd_same] at q; rw [h1]; exact q
    · rw [upd_ne e] at q; exact c1.gh a u q
  · rw [upd_ne (show a ≠ p from fun e => a0 (by rw [← e]; exact ha))]; exact c1.ga a ha
  · cases m with
    | ml xs => obtain ⟨vs, rfl, r⟩ := r; exact Rep.lst upd_same (r.mono eg)
    | mK xs => obtain ⟨vs, rfl, r⟩ := r; exact Rep.dK upd_same (r.mono eg)
    | mT xs => obtain ⟨vs, rfl, r⟩ := r; exact Rep.dT upd_same (r.mono eg)
/-- .. or an owned one -/
theorem LnkV.unhidO (l : LnkV K G H A R Q) {p : Addr} (hp : H p = none) (st : Step G H A G1 H1 A1) (c1 : Con K G1 H1 A1 μ1) {o : HO} {m : M} (h1 : H1 p = some o) (g0 : G1 p = none) (a0 : p ∉ A1) (r : MRep K G1 o m) (h : R (.own μ1.length) (μ1 ++ [m])) : Q (.ref p) H1 := by
  obtain ⟨t, e, ht⟩ := st.a
  refine l _ (.own μ1.length) G1 H1 (A1 ++ [p]) (μ1 ++ [m]) ⟨st.g, st.h, ⟨t ++ [p], by rw [e, List.append_assoc], fun x hx => ?_⟩, st.f⟩ ⟨c1.gh, by simp [c1.len], fun k a m' e1 e2 => ?_, List.nodup_append.mpr ⟨c1.nd, by simp, fun a ha b hb z => a0 (by rw [List.mem_singleton.mp hb] at z; rw [← z]; exact ha)⟩, fun a ha => ?_⟩ ⟨p, by rw [← c1.len]; simp, rfl⟩ h
  · rcases List.mem_append.mp hx with z | z
    · exact ht x z
    · rw [List.mem_singleton.mp z]; exact hp
  · by_cases hk : k < A1.length
    · rw [List.getElem?_append_left hk] at e1
      rw [List.getElem?_append_left (by rw [← c1.len]; exact hk)] at e2
      exact c1.mem k a m' e1 e2
    · have ek : k = A1.length := by
        have := (List.getElem?_eq_some_iff.mp e1).1
        simp at this; omega
      subst ek
      have e3 : p = a := by simpa using e1
      have e4 : m = m' := by rw [c1.len] at e2; simpa using e2
      subst e3 e4
      exact ⟨_, h1, r⟩
  · rcases List.mem_append.mp ha with z | z
    · exact c1.ga a z
    · rw [List.mem_singleton.mp z]; exact g0
theorem Con.take (c : Con K G1 H1 (A ++ A1) μ1) : Con K G1 H1 A (μ1.take A.length) := by
  have hl := c.len
  rw [List.length_append] at hl
  refine ⟨c.gh, by rw [List.length_take]; omega, fun k a m h1 h2 => ?_, c.nd.sublist (List.sublist_append_left _ _), fun a ha => c.ga a (List.mem_append_left _ ha)⟩
  refine c.mem k a m ?_ ?_
  · rw [List.getElem?_append_left (List.getElem?_eq_some_iff.mp h1).1]; exact h1
  · rw [List.getElem?_take_of_lt (List.getElem?_eq_some_iff.mp h1).1] at h2; exact h2
theorem lnk_ret (c0 : Con K G H A μ) (l : LnkV K G H A R Q) : LnkV K G H A (RetR μ.length R) Q := by
  intro v w G' H' A' μ' st c' r h
  obtain ⟨t, rfl, ht⟩ := st.a
  have ct : Con K G' H' A (μ'.take μ.length) := by rw [← c0.len]; exact c'.take
  have stt : Step G H A G' H' A := ⟨st.g, st.h, ⟨[], by simp, fun _ h => nomatch h⟩, st.f⟩
  cases w with
  | val d => exact l v (.val d) G' H' A _ stt ct r h
  | own k =>
    obtain ⟨a, ha, rfl⟩ := r
    have h : (if k < μ.length then R (.own k) (μ'.take μ.length) else ∃ m, μ'[k]? = some m ∧ (R (.val (frz m)) (μ'.take μ.length) ∨ R (.own μ.length) (μ'.take μ.length ++ [m]))) := h
    by_cases hk : k < μ.length
    · rw [if_pos hk] at h
      exact l _ (.own k) G' H' A _ stt ct ⟨a, by rw [List.getElem?_append_left (by rw [c0.len]; exact hk)] at ha; exact ha, rfl⟩ h
    · rw [if_neg hk] at h
      obtain ⟨m, hm, h⟩ := h
      obtain ⟨o, h1, r⟩ := c'.mem k a m ha hm
      have hat : a ∈ t := by
        rw [List.getElem?_append_right (by rw [c0.len]; omega)] at ha
        exact List.mem_of_getElem? ha
      have hp := ht a hat
      have g0 := c'.ga a (List.mem_append_right _ hat)
      have a0 : a ∉ A := fun z => (List.nodup_append.mp c'.nd).2.2 a z a hat rfl
      rcases h with h | h
      · exact l.unhidD hp stt ct h1 g0 a0 r h
      · have hl : (μ'.take μ.length).length = μ.length := by rw [← ct.len, c0.len]
        exact l.unhidO hp stt ct h1 g0 a0 r (by rw [hl]; exact h)
end

/-! ### defs -/
abbrev SpecD := List W → List M → (W → List M → Prop) → Prop
def spD (K : PySem.W.Frag) (S : SpecD) : Sp := fun vs H Q _ => ∃ G A ws μ R, Con K G H A μ ∧ RepWs K G A vs ws ∧ S ws μ R ∧ LnkV K G H A R Q
/-- the module's def x keeps S, by at most level k -/
def Callee (m : Mo) (x : Str) (k : Nat) (S : SpecD) : Prop := ∃ (f : Addr) (fd : FuncData) (ps : List Str), m.mg x = some (.ref f) ∧ PySem.W.keepIn m.K (.ref f) = true ∧ Binds m.K fd ps [] ∧ FnOk m.P m.w m.K m.mg m.base CX0 k f fd ps (spD m.K S)
/-- the def as it stands behind the top -/
def Stands (m : Mo) (x : Str) (st : Stmt) : Prop := ∃ (f : Addr) (fd : FuncData), m.mg x = some (.ref f) ∧ FunD m.K x x (defArgs st) (defBody st) (defScope st) [] [] f fd
def startD (N : List Str) (ws : List W) : DS := ws.map some ++ List.replicate (N.length - ws.length) none
theorem slots_start {K : PySem.W.Frag} {G : Hp} {A : List Addr} {N : List Str} {vs : List V} {ws : List W} (r : RepWs K G A vs ws) : SlotsR K G A (L2.start N vs) (startD N ws) := by
  have hl := r.length
  refine ⟨by unfold L2.start startD; simp [hl], fun i w h => ?_⟩
  unfold startD at h
  by_cases hi : i < ws.length
  · rw [List.getElem?_append_left (by simpa using hi), List.getElem?_map] at h
    cases e : ws[i]? with
    | none => rw [e] at h; cases h
    | some w' =>
      rw [e] at h
      cases h
      obtain ⟨v, h1, h2⟩ := r.get e
      refine ⟨v, ?_, h2⟩
      unfold L2.start
      rw [List.getElem?_append_left (by simpa [hl] using hi), List.getElem?_map, h1]
      rfl
  · rw [List.getElem?_append_right (by simpa using hi), List.getElem?_replicate] at h
    split at h <;> cases h
theorem callee_of {m : Mo} {x : Str} {st : Stmt} {N ps : List Str} {k : Nat} {S : SpecD} (F : Stands m x st) (SC : FnScope N ps (defScope st)) (len : ∀ ws μ R, S ws μ R → ws.length = ps.length)
    (hb : ∀ (kV doc pm : Value) (an : Option Addr) (cdv ct : Value) (us : List Value), us.length = ps.length → bindArgs (PySem.W.fnOf x x (defArgs st) (defBody st) (defScope st) .none kV doc pm an cdv ct) ⟨us, []⟩ = pure (ps.zip us))
    (body : ∀ X : Cx, moOf X = m → GX X (defScope st) N → FX X → Room k X.A → ∀ ws μ R, S ws μ R → WSs X (defBody st) (startD N ws) μ ⟨fun _ μ' => RetR μ.length R (.val .non) μ', RetR μ.length R, fun _ _ => False, fun _ _ => False⟩) : Callee m x (k + 1) S := by
  obtain ⟨f, fd, hmg, F⟩ := F
  obtain ⟨P, w, K, mg, base⟩ := m
  refine ⟨f, fd, ps, hmg, F.kp, F.bindsN hb, ?_⟩
  refine F.ok SC (fun vs H Q E h => ?_) (fun cdv A outer s H vs Q E hr h => ?_)
  · obtain ⟨G, A, ws, μ, R, c, r, hS, _⟩ := h
    rw [r.length]
    exact len ws μ R hS
  · obtain ⟨G, A', ws, μ, R, c, r, hS, l⟩ := h
    refine ⟨wSs (cxOf CX0 P w K mg base N x (defScope st) f cdv A outer s H E).nox (defBody st), PSs.nox pss_w, ?_⟩
    have G0 : GX (cxOf CX0 P w K mg base N x (defScope st) f cdv A outer s H E).nox (defScope st) N :=
      ⟨rfl, rfl, SC.kind, rfl, SC.nd, rfl⟩
    have l2 := lnk_ret c l
    refine body (cxOf CX0 P w K mg base N x (defScope st) f cdv A outer s H E).nox rfl G0 (fun _ => rfl) hr ws μ R hS G H A' (L2.start N vs) c (slots_start r) _ ⟨fun σ' δ' G' H' A'' μ' st' c' s' h' => l2 .non (.val .non) G' H' A'' μ' st' c' Rep.non h', l2, fun _ _ _ _ _ _ _ _ _ h' => h'.elim, fun _ _ _ _ _ _ _ _ _ h' => h'.elim⟩
/-! ### calls of the module's defs -/
section
variable {X : Cx} {sc : Scope} {N : List Str} {δ : DS} {μ : List M} {R : W → List M → Prop} {RB : Bool → List M → Prop} {a b c e : Expr} {es : List Expr} {pos p : Pos}
theorem ev_call {K : PySem.W.Frag} {t : TA} {S : SpecD} {E : XK} (h : EvA K t δ μ fun ws μ1 => S ws μ1 R) : EvE K (tCall (spD K S) [] E t) δ μ R := fun G H A σ c s Q l =>
  h G H A σ c s _ fun vs ws G1 H1 A1 μ1 s1 c1 r1 h1 => by
    rw [List.append_nil]
    exact ⟨G1, A1, ws, μ1, R, c1, r1, h1, l.step c1 s1⟩
theorem x_call (G : GX X sc N) {x : Str} {k k' : Nat} {S : SpecD} (C : Callee (moOf X) x k S) (hr : Room k' X.A) (hk : k ≤ k') (h : WA X (e :: es) δ μ fun ws μ1 => S ws μ1 R) (hg : sc.names.lookup x = some .globalImplicit := by rfl)
    (hdb : (x == ("__debug__" : Str)) = false := by decide) (he : starEach (e :: es) X.env = (false, eval e X.env) :: starEach es X.env := by rfl) (hpl : (backTo pos (starEach es X.env)).any (·.1) = false := by rfl) : WE X (.Call (.Name x p) (e :: es) [] pos) δ μ R := by
  obtain ⟨f, fd, ps, hm, hkp, hb, F⟩ := C
  refine .of (pe_call (X := X) (E := E0) F (hr.mono hk) (G.gl hg) hm hkp hb .nil ?_ pa_w hdb he hpl) (ev_call h)
  exact fun _ _ _ _ _ _ _ h => h.elim
/-! ### built-ins -/
theorem x_callB (G : GX X sc N) {x : Str} {id : String} {r : List V → Hp → VK → Prop} (hc : CallR X (.builtin id) r) (hm : (moOf X).mg x = none) (hv : bootBuiltins x = some (.builtin id)) (h : WA X (e :: es) δ μ fun ws μ1 => RVL X.K r ws μ1 R) (hg : sc.names.lookup x = some .globalImplicit := by rfl) (hn : x ≠ "__name__" := by decide) (hdb : (x == ("__debug__" : Str)) = false := by decide)
    (he : starEach (e :: es) X.env = (false, eval e X.env) :: starEach es X.env := by rfl) (hpl : (backTo pos (starEach es X.env)).any (·.1) = false := by rfl) : WE X (.Call (.Name x p) (e :: es) [] pos) δ μ R :=
  .of (pe_callB hc (G.gl hg) hm hv pa_w hn hdb he hpl) (ev_cb h)
theorem x_callTy (G : GX X sc N) {x : Str} {T : String} {r : List V → Hp → VK → Prop} (hc : CallR X (.type T) r) (hm : (moOf X).mg x = none) (hv : bootBuiltins x = some (.type T)) (h : WA X (e :: es) δ μ fun ws μ1 => RVL X.K r ws μ1 R) (hg : sc.names.lookup x = some .globalImplicit := by rfl) (hn : x ≠ "__name__" := by decide) (hdb : (x == ("__debug__" : Str)) = false := by decide)
    (he : starEach (e :: es) X.env = (false, eval e X.env) :: starEach es X.env := by rfl) (hpl : (backTo pos (starEach es X.env)).any (·.1) = false := by rfl) : WE X (.Call (.Name x p) (e :: es) [] pos) δ μ R :=
  .of (pe_callTy hc (G.gl hg) hm hv pa_w hn hdb he hpl) (ev_cb h)
theorem rws1 {K : PySem.W.Frag} {G : Hp} {A : List Addr} {vs : List V} {w : W} (r : RepWs K G A vs [w]) : ∃ v, vs = [v] ∧ RepW K G A v w := by
  cases r with
  | cons a b => cases b; exact ⟨_, rfl, a⟩
theorem rws2 {K : PySem.W.Frag} {G : Hp} {A : List Addr} {vs : List V} {w w' : W} (r : RepWs K G A vs [w, w']) : ∃ v v', vs = [v, v'] ∧ RepW K G A v w ∧ RepW K G A v' w' := by
  cases r with
  | cons a b =>
    cases b with
    | cons b d => cases d; exact ⟨_, _, rfl, a, b⟩
/-- one argument, one value -/
theorem x_B1 (G : GX X sc N) {x : Str} {id : String} {r : List V → Hp → VK → Prop} (hc : CallR X (.builtin id) r) (hm : (moOf X).mg x = none) (hv : bootBuiltins x = some (.builtin id)) (h : WE X e δ μ fun w μ1 => RVL X.K r [w] μ1 R) (hg : sc.names.lookup x = some .globalImplicit := by rfl) (hn : x ≠ "__name__" := by decide) (hdb : (x == ("__debug__" : Str)) = false := by decide)
    (hs : starEach [e] X.env = (false, eval e X.env) :: starEach [] X.env := by rfl) : WE X (.Call (.Name x p) [e] [] pos) δ μ R :=
  x_callB G hc hm hv (a_cons (h.mono fun w _ h => a_nil h) hs) hg hn hdb hs rfl
theorem x_T1 (G : GX X sc N) {x : Str} {T : String} {r : List V → Hp → VK → Prop} (hc : CallR X (.type T) r) (hm : (moOf X).mg x = none) (hv : bootBuiltins x = some (.type T)) (h : WE X e δ μ fun w μ1 => RVL X.K r [w] μ1 R) (hg : sc.names.lookup x = some .globalImplicit := by rfl) (hn : x ≠ "__name__" := by decide) (hdb : (x == ("__debug__" : Str)) = false := by decide)
    (hs : starEach [e] X.env = (false, eval e X.env) :: starEach [] X.env := by rfl) : WE X (.Call (.Name x p) [e] [] pos) δ μ R :=
  x_callTy G hc hm hv (a_cons (h.mono fun w _ h => a_nil h) hs) hg hn hdb hs rfl
/-- len: a tuple, a list, a text, a dict -/
theorem v_len {K : PySem.W.Frag} {w : W} {xs : List D} (s : SeqW μ w xs) (h : R (.val (.int xs.length)) μ) : RVL K (fun xs H Q => ∃ p ys, xs = [.ref p] ∧ (SqL K H p ys ∨ SqT K H p ys) ∧ Q (.int ys.length) H) [w] μ R := fun G H A vs c r Q l => by
  obtain ⟨v, rfl, r1⟩ := rws1 r
  obtain ⟨a, us, rfl, hq, rs⟩ := s.at_ c r1
  exact ⟨a, us, rfl, hq, by rw [rs.length]; exact l.now (w := .val (.int xs.length)) c (Rep.int _) h⟩
theorem x_len (G : GX X sc N) (hm : (moOf X).mg "len" = none) (h : WE X e δ μ fun w μ1 => ∃ xs, SeqW μ1 w xs ∧ R (.val (.int (xs.length : Int))) μ1) (hg : sc.names.lookup ("len" : Str) = some .globalImplicit := by rfl) (hs : starEach [e] X.env = (false, eval e X.env) :: starEach [] X.env := by rfl) : WE X (.Call (.Name "len" p) [e] [] pos) δ μ R :=
  x_B1 G call_len_seq hm PySem.boot_len (h.mono fun _ _ ⟨xs, s, h⟩ => v_len s h) hg (hs := hs)
theorem v_lenS {K : PySem.W.Frag} {z : Str} (hz : z.length ≤ 100000) (h : R (.val (.int z.length)) μ) : RVL K (fun xs H Q => ∃ z, xs = [.str z] ∧ z.length ≤ sizeLine ∧ Q (.int z.length) H) [.val (.str z)] μ R := fun G H A vs c r Q l => by
  obtain ⟨v, rfl, r1⟩ := rws1 r
  cases r1
  exact ⟨z, rfl, Evl.sz_of hz, l.now (w := .val (.int z.length)) c (Rep.int _) h⟩
theorem x_lenS (G : GX X sc N) (hm : (moOf X).mg "len" = none) (h : WE X e δ μ fun w μ1 => ∃ z : Str, w = .val (.str z) ∧ z.length ≤ 100000 ∧ R (.val (.int (z.length : Int))) μ1) (hg : sc.names.lookup ("len" : Str) = some .globalImplicit := by rfl) (hs : starEach [e] X.env = (false, eval e X.env) :: starEach [] X.env := by rfl) : WE X (.Call (.Name "len" p) [e] [] pos) δ μ R :=
  x_B1 G call_len_str hm PySem.boot_len (h.mono fun _ _ ⟨z, e, hz, h⟩ => by subst e; exact v_lenS hz h) hg (hs := hs)
/-- a dict with int and text keys: data or owned -/
inductive DicW (μ : List M) : W → List (Key × D) → Prop
  | dat {kvs : List (Key × D)} : DicW μ (.val (.dK kvs)) kvs
  | own {k : Nat} {kvs : List (Key × D)} (h : μ[k]? = some (.mK kvs)) : DicW μ (.own k) kvs
theorem DicW.at_ {K : PySem.W.Frag} {G H : Hp} {A : List Addr} {w : W} {v : V} {xs : List (Key × D)} (s : DicW μ w xs) (c : Con K G H A μ) (r : RepW K G A v w) : ∃ a vs, v = .ref a ∧ H a = some (.dK vs) ∧ RepK K G vs xs := by
  cases s with
  | dat =>
    cases r with
    | dK h1 h2 => exact ⟨_, _, rfl, c.gh _ _ h1, h2⟩
  | own h =>
    obtain ⟨a, vs, rfl, _, h1, h2⟩ := c.ownK h r
    exact ⟨a, vs, rfl, h1, h2⟩
theorem v_lenD {K : PySem.W.Frag} {w : W} {xs : List (Key × D)} (s : DicW μ w xs) (h : R (.val (.int xs.length)) μ) : RVL K (fun xs H Q => ∃ a kvs, xs = [V.ref a] ∧ H a = some (.dK kvs) ∧ Q (.int kvs.length) H) [w] μ R := fun G H A vs c r Q l => by
  obtain ⟨v, rfl, r1⟩ := rws1 r
  obtain ⟨a, us, rfl, hq, rs⟩ := s.at_ c r1
  exact ⟨a, us, rfl, hq, by rw [rs.length]; exact l.now (w := .val (.int xs.length)) c (Rep.int _) h⟩
theorem x_lenD (G : GX X sc N) (hm : (moOf X).mg "len" = none) (h : WE X e δ μ fun w μ1 => ∃ xs, DicW μ1 w xs ∧ R (.val (.int (xs.length : Int))) μ1) (hg : sc.names.lookup ("len" : Str) = some .globalImplicit := by rfl) (hs : starEach [e] X.env = (false, eval e X.env) :: starEach [] X.env := by rfl) : WE X (.Call (.Name "len" p) [e] [] pos) δ μ R :=
  x_B1 G call_lenD hm PySem.boot_len (h.mono fun _ _ ⟨xs, s, h⟩ => v_lenD s h) hg (hs := hs)
theorem v_lenT {K : PySem.W.Frag} {xs : List (List Key × D)} (h : R (.val (.int xs.length)) μ) : RVL K rLenT [.val (.dT xs)] μ R := fun G H A vs c r Q l => by
  obtain ⟨v, rfl, r1⟩ := rws1 r
  cases r1 with
  | dT h1 h2 => exact ⟨_, _, rfl, c.gh _ _ h1, by rw [h2.length]; exact l.now (w := .val (.int xs.length)) c (Rep.int _) h⟩
theorem x_lenT (G : GX X sc N) (hm : (moOf X).mg "len" = none) (h : WE X e δ μ fun w μ1 => ∃ xs, w = .val (.dT xs) ∧ R (.val (.int (xs.length : Int))) μ1) (hg : sc.names.lookup ("len" : Str) = some .globalImplicit := by rfl) (hs : starEach [e] X.env = (false, eval e X.env) :: starEach [] X.env := by rfl) : WE X (.Call (.Name "len" p) [e] [] pos) δ μ R :=
  x_B1 G call_len_dT hm PySem.boot_len (h.mono fun _ _ ⟨xs, e, h⟩ => by subst e; exact v_lenT h) hg (hs := hs)
/-- all(list of bools) -/
theorem v_all {K : PySem.W.Frag} {w : W} {bs : List Bool} (s : LstW μ w (bs.map D.bl)) (h : R (.val (.bl (bs.all id))) μ) : RVL K (rAll K) [w] μ R := fun G H A vs c r Q l => by
  obtain ⟨v, rfl, r1⟩ := rws1 r
  obtain ⟨a, us, rfl, hq, rs⟩ := s.at_ c r1
  rw [rs.bls] at hq
  exact ⟨a, bs, rfl, hq, l.now (w := .val (.bl (bs.all id))) c (Rep.bl _) h⟩
theorem x_all (G : GX X sc N) (hm : (moOf X).mg "all" = none) (h : WE X e δ μ fun w μ1 => ∃ bs : List Bool, LstW μ1 w (bs.map D.bl) ∧ R (.val (.bl (bs.all id))) μ1) (hg : sc.names.lookup ("all" : Str) = some .globalImplicit := by rfl) (hs : starEach [e] X.env = (false, eval e X.env) :: starEach [] X.env := by rfl) : WE X (.Call (.Name "all" p) [e] [] pos) δ μ R :=
  x_B1 G (cr_all G.calm) hm (by decide +kernel) (h.mono fun _ _ ⟨bs, s, h⟩ => v_all s h) hg (hs := hs)
/-- sum(list of ints) -/
theorem v_sum {K : PySem.W.Frag} {w : W} {bs : List Int} (s : LstW μ w (bs.map D.int)) (h : R (.val (.int bs.sum)) μ) : RVL K (rSum K) [w] μ R := fun G H A vs c r Q l => by
  obtain ⟨v, rfl, r1⟩ := rws1 r
  obtain ⟨a, us, rfl, hq, rs⟩ := s.at_ c r1
  rw [rs.ints] at hq
  exact ⟨a, bs, rfl, hq, l.now (w := .val (.int bs.sum)) c (Rep.int _) h⟩
theorem x_sum (G : GX X sc N) (hm : (moOf X).mg "sum" = none) (h : WE X e δ μ fun w μ1 => ∃ bs : List Int, LstW μ1 w (bs.map D.int) ∧ R (.val (.int bs.sum)) μ1) (hg : sc.names.lookup ("sum" : Str) = some .globalImplicit := by rfl) (hs : starEach [e] X.env = (false, eval e X.env) :: starEach [] X.env := by rfl) : WE X (.Call (.Name "sum" p) [e] [] pos) δ μ R :=
  x_B1 G (cr_sum G.calm) hm boot_sum (h.mono fun _ _ ⟨bs, s, h⟩ => v_sum s h) hg (hs := hs)
/-- int(n) -/
theorem v_int {K : PySem.W.Frag} {i : Int} (h : R (.val (.int i)) μ) : RVL K (fun xs H Q => (∃ i, xs = [.int i] ∧ Q (.int i) H) ∨ ∃ k, xs = [.bl k] ∧ Q (.int (if k then 1 else 0)) H) [.val (.int i)] μ R := fun G H A vs c r Q l => by
  obtain ⟨v, rfl, r1⟩ := rws1 r
  cases r1
  exact .inl ⟨i, rfl, l.now (w := .val (.int i)) c (Rep.int _) h⟩
theorem x_toint (G : GX X sc N) (hm : (moOf X).mg "int" = none) (h : WE X e δ μ fun w μ1 => ∃ i, w = .val (.int i) ∧ R (.val (.int i)) μ1) (hg : sc.names.lookup ("int" : Str) = some .globalImplicit := by rfl) (hs : starEach [e] X.env = (false, eval e X.env) :: starEach [] X.env := by rfl) : WE X (.Call (.Name "int" p) [e] [] pos) δ μ R :=
  x_T1 G call_int1 hm (by decide +kernel) (h.mono fun _ _ ⟨i, e, h⟩ => by subst e; exact v_int h) hg (hs := hs)
/-- tuple(list), list(xs) -/
theorem v_tuple {K : PySem.W.Frag} {w : W} {xs : List D} (s : LstW μ w xs) (h : R (.val (.tup xs)) μ) : RVL K (fun xs H Q => ∃ p ys, xs = [.ref p] ∧ ((SqL K H p ys ∧ ∀ l, H l = none → Q (.ref l) (upd H l (.tup ys))) ∨ (SqT K H p ys ∧ Q (.ref p) H))) [w] μ R := fun G H A vs c r Q l => by
  obtain ⟨v, rfl, r1⟩ := rws1 r
  obtain ⟨a, us, rfl, hq, rs⟩ := s.at_ c r1
  exact ⟨a, us, rfl, .inl ⟨hq, fun q hq => l.newT c hq rs h⟩⟩
theorem x_tuple (G : GX X sc N) (hm : (moOf X).mg "tuple" = none) (h : WE X e δ μ fun w μ1 => ∃ xs, LstW μ1 w xs ∧ R (.val (.tup xs)) μ1) (hg : sc.names.lookup ("tuple" : Str) = some .globalImplicit := by rfl) (hs : starEach [e] X.env = (false, eval e X.env) :: starEach [] X.env := by rfl) : WE X (.Call (.Name "tuple" p) [e] [] pos) δ μ R :=
  x_T1 G call_tuple_of hm (by decide +kernel) (h.mono fun _ _ ⟨xs, s, h⟩ => v_tuple s h) hg (hs := hs)
/-- tuple(list), more known of the object -/
def rTux (K : PySem.W.Frag) : List V → Hp → VK → Prop := fun xs H Q => ∃ p ys, xs = [.ref p] ∧ SqL K H p ys ∧ ∀ l (o : Obj), o.cls = .type "tuple" → o.dict = none → H l = none → Q (.ref l) (upd H l (.frz o (.tup ys)))
theorem call_tux : CallR X (.type "tuple") (rTux X.K) := by
  intro pins s σ H xs us Q I r h
  obtain ⟨p, ys, rfl, hq, q⟩ := h
  obtain ⟨u, rfl, rx⟩ := vals1 r
  cases rx
  obtain ⟨its, r', pl, hz⟩ := I.list hq
  have hlen := r'.length
  refine call_tuple_list pl.isList (fun h' kp => ?_) (by simp only [List.size_toArray] <;> omega)
  have I1 : Inv X pins σ H { s with heap := h' } := I.kept (t' := s.toks) kp
  have e0 : (h'.push { cls := .type "tuple", data := .seq its.toArray }).get? h'.objs.size = some { cls := .type "tuple", data := .seq its.toArray } := Heap.get?_push_size _ rfl
  have I2 : Inv X pins σ (upd H h'.objs.size (.frz { cls := .type "tuple", data := .seq its.toArray } (.tup ys))) { s with heap := h'.push { cls := .type "tuple", data := .seq its.toArray } } :=
    I1.laid (t' := s.toks) (fun b o e => Heap.get?_push_of_some _ e) (Nat.le_refl _) (show ObjOk X.prog X.w _ _ _ (.frz _ (.tup ys)) from ⟨e0, hz, its, r', IsTup.new _ _⟩)
  exact ⟨.ref h'.objs.size, _, I2, rfl, q _ _ rfl rfl (I1.hok.fresh (Nat.le_refl _))⟩
theorem v_tux {K : PySem.W.Frag} {w : W} {xs : List D} (s : LstW μ w xs) (h : R (.val (.tux xs)) μ) : RVL K (rTux K) [w] μ R := fun G H A vs c r Q l => by
  obtain ⟨v, rfl, r1⟩ := rws1 r
  obtain ⟨a, us, rfl, hq, rs⟩ := s.at_ c r1
  refine ⟨a, us, rfl, hq, fun q o h1 h2 hq => ?_⟩
  obtain ⟨c1, s1⟩ := c.newG hq (.frz o (.tup us))
  exact l _ (.val (.tux xs)) _ _ _ _ s1 c1 (Rep.tux upd_same h1 h2 (rs.mono s1.g)) h
theorem x_tux (G : GX X sc N) (hm : (moOf X).mg "tuple" = none) (h : WE X e δ μ fun w μ1 => ∃ xs, LstW μ1 w xs ∧ R (.val (.tux xs)) μ1) (hg : sc.names.lookup ("tuple" : Str) = some .globalImplicit := by rfl) (hs : starEach [e] X.env = (false, eval e X.env) :: starEach [] X.env := by rfl) : WE X (.Call (.Name "tuple" p) [e] [] pos) δ μ R :=
  x_T1 G call_tux hm (by decide +kernel) (h.mono fun _ _ ⟨xs, s, h⟩ => v_tux s h) hg (hs := hs)
theorem v_list {K : PySem.W.Frag} {w : W} {xs : List D} (o : Bool) (s : SeqW μ w xs) (h : mkL o R xs μ) : RVL K (fun xs H Q => ∃ p ys, xs = [.ref p] ∧ (SqL K H p ys ∨ SqT K H p ys) ∧ ∀ l, H l = none → Q (.ref l) (upd H l (.lst ys))) [w] μ R := fun G H A vs c r Q l => by
  obtain ⟨v, rfl, r1⟩ := rws1 r
  obtain ⟨a, us, rfl, hq, rs⟩ := s.at_ c r1
  exact ⟨a, us, rfl, hq, fun q hq => l.newB c hq rs h⟩
theorem x_list (G : GX X sc N) (hm : (moOf X).mg "list" = none) (o : Bool) (h : WE X e δ μ fun w μ1 => ∃ xs, SeqW μ1 w xs ∧ mkL o R xs μ1) (hg : sc.names.lookup ("list" : Str) = some .globalImplicit := by rfl) (hs : starEach [e] X.env = (false, eval e X.env) :: starEach [] X.env := by rfl) : WE X (.Call (.Name "list" p) [e] [] pos) δ μ R :=
  x_T1 G call_list_of hm (by decide +kernel) (h.mono fun _ _ ⟨xs, s, h⟩ => v_list o s h) hg (hs := hs)
/-- max, min of two ints -/
theorem x_max2 (G : GX X sc N) (hm : (moOf X).mg "max" = none) (h : WE X a δ μ fun w1 μ1 => WE X b δ μ1 fun w2 μ2 => II w1 w2 fun i j => R (.val (.int (if j > i then j else i))) μ2) (hg : sc.names.lookup ("max" : Str) = some .globalImplicit := by rfl)
    (hs : starEach [a, b] X.env = (false, eval a X.env) :: starEach [b] X.env := by rfl) (hs2 : starEach [b] X.env = (false, eval b X.env) :: starEach [] X.env := by rfl) : WE X (.Call (.Name "max" p) [a, b] [] pos) δ μ R :=
  x_callB G (call_max2 G.calm) hm (by decide +kernel) (a_cons (h.mono fun _ _ h1 => a_cons (h1.mono fun _ _ ⟨i, j, e1, e2, h2⟩ => a_nil (by
    subst e1 e2
    intro G H A vs c r Q l
    obtain ⟨v, v', rfl, r1, r2⟩ := rws2 r
    cases r1; cases r2
    exact ⟨i, j, rfl, l.now (w := .val (.int (if j > i then j else i))) c (Rep.int _) h2⟩)) hs2) hs) hg (he := hs) (hpl := by rw [hs2]; rfl)
theorem x_min2 (G : GX X sc N) (hm : (moOf X).mg "min" = none) (h : WE X a δ μ fun w1 μ1 => WE X b δ μ1 fun w2 μ2 => II w1 w2 fun i j => R (.val (.int (if j < i then j else i))) μ2) (hg : sc.names.lookup ("min" : Str) = some .globalImplicit := by rfl)
    (hs : starEach [a, b] X.env = (false, eval a X.env) :: starEach [b] X.env := by rfl) (hs2 : starEach [b] X.env = (false, eval b X.env) :: starEach [] X.env := by rfl) : WE X (.Call (.Name "min" p) [a, b] [] pos) δ μ R :=
  x_callB G (call_min2 G.calm) hm (by decide +kernel) (a_cons (h.mono fun _ _ h1 => a_cons (h1.mono fun _ _ ⟨i, j, e1, e2, h2⟩ => a_nil (by
    subst e1 e2
    intro G H A vs c r Q l
    obtain ⟨v, v', rfl, r1, r2⟩ := rws2 r
    cases r1; cases r2
    exact ⟨i, j, rfl, l.now (w := .val (.int (if j < i then j else i))) c (Rep.int _) h2⟩)) hs2) hs) hg (he := hs) (hpl := by rw [hs2]; rfl)
/-! isinstance -/
def tyD : D → String
  | .non => "NoneType"
  | .bl _ => "bool"
  | .int _ => "int"
  | .str _ => "str"
  | .tup _ | .tux _ => "tuple"
  | .lst _ => "list"
  | .sq _ => "?"
  | .dK _ | .dT _ => "dict"
/-- not the script -/
def okT : D → Bool
  | .sq _ => false
  | _ => true
theorem tyD_ok {K : PySem.W.Frag} {G H : Hp} {A : List Addr} {v : V} {d : D} (c : Con K G H A μ) (r : Rep K G v d) (hd : okT d = true) : TyX K H v (.type (tyD d)) := by
  cases r with
  | non => exact .base .non
  | bl b => exact .base (.bl b)
  | int b => exact .base (.int b)
  | str b => exact .base (.str b)
  | tup h _ => exact .base (.tup (c.gh _ _ h))
  | tux h _ _ _ => exact .fTuple (c.gh _ _ h)
  | lst h _ => exact .base (.lst (c.gh _ _ h))
  | sq _ _ => cases hd
  | dK h _ => exact .base (.dK (c.gh _ _ h))
  | dT h _ => exact .base (.dT (c.gh _ _ h))
theorem ev_isi {K : PySem.W.Frag} {T : String} {ta : TE} (h : EvE K ta δ μ fun w μ1 => ∃ d b, w = .val d ∧ okT d = true ∧ kitB (tyD d) T = some b ∧ R (.val (.bl b)) μ1) : EvE K (tCB (rIsi K) (tCons ta (tCons (tC (.ty T)) tNil))) δ μ R := fun G H A σ c s Q l =>
  h G H A σ c s _ fun v w G1 H1 A1 μ1 s1 c1 r1 ⟨d, b, e, hd, hk, h1⟩ => by
    subst e
    exact ⟨v, .ty T, .type (tyD d), .type T, b, rfl, .ty T, tyD_ok c1 r1 hd, kit_ty hk, (l.step c1 s1).now (w := .val (.bl b)) c1 (Rep.bl b) h1⟩
theorem x_isi (G : GX X sc N) {x : Str} {T : String} {q : Pos} (hm : (moOf X).mg "isinstance" = none) (hmT : (moOf X).mg x = none) (hv : bootBuiltins x = some (.type T)) (h : WE X a δ μ fun w μ1 => ∃ d b, w = .val d ∧ okT d = true ∧ kitB (tyD d) T = some b ∧ R (.val (.bl b)) μ1)
    (hg : sc.names.lookup ("isinstance" : Str) = some .globalImplicit := by rfl) (hgT : sc.names.lookup x = some .globalImplicit := by rfl) (hn : x ≠ "__name__" := by decide) (hdb : (x == ("__debug__" : Str)) = false := by decide)
    (hs : starEach [a, .Name x q] X.env = (false, eval a X.env) :: starEach [.Name x q] X.env := by rfl) : WE X (.Call (.Name "isinstance" p) [a, .Name x q] [] pos) δ μ R :=
  .of (pe_callB call_isi (G.gl hg) hm (by decide +kernel) (pa_cons pe_w (pa_cons (pe_bltn (v := .ty T) (G.gl hgT) hmT hv rfl hn hdb) pa_nil rfl) hs) (he := hs) (hpl := rfl)) (ev_isi h)
end
/-! ### statements -/
section
variable {X : Cx} {sc : Scope} {N : List Str} {δ : DS} {μ : List M} {D : DE} {a b c e : Expr} {es : List Expr} {st : Stmt} {sts sts' : List Stmt} {pos p : Pos}
theorem s_nil (h : D.nx δ μ) : WSs X [] δ μ D := .of pss_nil (es_nx h)
theorem s_cons (h : WS X st δ μ { D with nx := fun δ1 μ1 => WSs X sts δ1 μ1 D }) : WSs X (st :: sts) δ μ D := .of (pss_cons ps_w pss_w) (es_seq h)
theorem s_one (h : WS X st δ μ D) : WSs X [st] δ μ D := .of (pss_one ps_w) h
theorem s_ret (h : WE X e δ μ D.rt) : WS X (.Return (some e) pos) δ μ D := .of (ps_ret pe_w) (es_ret h)
theorem s_if (h : WT X c δ μ fun k μ1 => (k = true → WSs X sts δ μ1 D) ∧ (k = false → WSs X sts' δ μ1 D)) : WS X (.If c sts sts' pos) δ μ D := .of (ps_if pt_w pss_w pss_w) (es_if h)
theorem s_expr (h : WE X e δ μ fun _ μ1 => D.nx δ μ1) (hs : swapsWith e none pos.line X.env = pure false := by rfl) : WS X (.Expr e pos) δ μ D := .of (ps_expr pe_w hs) (es_drop h)
theorem s_set (G : GX X sc N) (i : Nat) {x : Str} (h : WE X e δ μ fun w μ1 => D.nx (δ.set i (some w)) μ1) (hN : N[i]? = some x := by rfl) (hv : Loc sc x := by first | exact Or.inl rfl | exact Or.inr rfl) (hs : swapsWith e (some (.Name x p)) pos.line X.env = pure false := by rfl) (fx : FX X := by assumption) : WS X (.Assign [.Name x p] e pos) δ μ D :=
  .of (ps_set (i := i) G.ndX (by rw [G.n]; exact hN) (by rw [G.esc]; exact hv) pe_w hs (.inl (fx x))) (es_asg (EvE.mono h fun _ _ h => eg_name h))
/-- target = e, any target -/
theorem s_asg {tg : Expr} (h : WE X e δ μ fun w μ1 => WG X tg w δ μ1 D.nx) (hs : swapsWithSole [tg] e pos.line X.env = pure false := by rfl) (hw : swappedStores [tg] e X.env = pure none := by rfl) (h1 : (assignEach [tg] X.env).map (·.2) = [assign tg X.env] := by rfl) : WS X (.Assign [tg] e pos) δ μ D :=
  .of (ps_asg pe_w pg_w hs hw h1) (es_asg h)
theorem s_while (G : GX X sc N) (Wd : Nat → DS → List M → Prop) (m0 : Nat) (h0 : Wd m0 δ μ)
    (hs : ∀ m δ' μ', Wd m δ' μ' → WT X c δ' μ' fun b μ1 => (b = true → WSs X sts δ' μ1 ⟨fun δ2 μ2 => ∃ m', m' < m ∧ Wd m' δ2 μ2, D.rt, D.nx, fun δ2 μ2 => ∃ m', m' < m ∧ Wd m' δ2 μ2⟩) ∧ (b = false → D.nx δ' μ1)) : WS X (.While c sts [] pos) δ μ D :=
  .of (ps_while G.never pt_w pss_w) (es_while Wd m0 h0 hs)
theorem s_for (G : GX X sc N) {tg iter : Expr} (h : WI X tg iter δ μ fun xs keep μ1 => ∃ P : Nat → DS → List M → Prop, P 0 δ μ1 ∧ (∀ i δ' μ', i ≤ xs.length → P i δ' μ' → keep μ') ∧
      (∀ i d δ' μ', xs[i]? = some d → P i δ' μ' → WG X tg (.val d) δ' μ' fun δ2 μ2 => WSs X sts δ2 μ2 ⟨P (i + 1), D.rt, D.nx, P (i + 1)⟩) ∧ ∀ δ' μ', P xs.length δ' μ' → D.nx δ' μ')
    (hs : ∀ x, foldedSetIterable iter X.env x = pure x := by intro _; rfl) : WS X (.For tg iter sts [] pos) δ μ D :=
  .of (ps_for G.never G.calm pi_w pg_w pss_w hs) (es_for h)
theorem s_par (G : GX X sc N) (i j : Nat) {x y : Str} {px py pt : Pos} {kt k2 pt2} (h : WE X a δ μ fun w1 μ1 => WE X b δ μ1 fun w2 μ2 => D.nx ((δ.set i (some w1)).set j (some w2)) μ2) (hi : N[i]? = some x := by rfl) (hj : N[j]? = some y := by rfl) (hij : i ≠ j := by decide)
    (hx : sc.names.lookup x = some .local := by rfl) (hy : sc.names.lookup y = some .local := by rfl) (hw : ∀ env : Env, env.scope = sc → swappedStores [.Tuple [.Name x px, .Name y py] kt pt] (.Tuple [a, b] k2 pt2) env = pure (some [x, y]) := by (intro env h; cases env; cases h; rfl))
    (hs : swapsWithSole [.Tuple [.Name x px, .Name y py] kt pt] (.Tuple [a, b] k2 pt2) pos.line X.env = pure false := by rfl) (hs1 : starEach [a, b] X.env = (false, eval a X.env) :: starEach [b] X.env := by rfl) (hs2 : starEach [b] X.env = (false, eval b X.env) :: starEach [] X.env := by rfl) :
    WS X (.Assign [.Tuple [.Name x px, .Name y py] kt pt] (.Tuple [a, b] k2 pt2) pos) δ μ D :=
  .of (ps_par (i := i) (j := j) G.calm G.ndX (by rw [G.n]; exact hi) (by rw [G.n]; exact hj) hij (by rw [G.esc]; exact hx) (by rw [G.esc]; exact hy) (pa_cons pe_w (pa_cons pe_w pa_nil hs2) hs1) (hw X.env G.esc) hs)
    (es_par (ea_cons (EvE.mono h fun _ _ h => ea_cons (EvE.mono h fun _ _ h => ea_nil ⟨_, _, rfl, h⟩))))
theorem g_name (G : GX X sc N) (i : Nat) {x : Str} {w : W} {P : DS → List M → Prop} (h : P (δ.set i (some w)) μ) (hN : N[i]? = some x := by rfl) (hv : Loc sc x := by first | exact Or.inl rfl | exact Or.inr rfl) (fx : FX X := by assumption) : WG X (.Name x pos) w δ μ P := .of (G.pg fx hN hv) (eg_name h)
/-- (a, b), (a, b, c), .. = a tuple -/
theorem g_tup2 (G : GX X sc N) (i j : Nat) {x y : Str} {px py : Pos} {kk : Nat} {d d1 d2 : DL.D} {P : DS → List M → Prop} (ht : TupD d [d1, d2]) (h : P ((δ.set i (some (.val d1))).set j (some (.val d2))) μ) (hi : N[i]? = some x := by rfl) (hj : N[j]? = some y := by rfl)
    (hx : Loc sc x := by first | exact Or.inl rfl | exact Or.inr rfl) (hy : Loc sc y := by first | exact Or.inl rfl | exact Or.inr rfl) (fx : FX X := by assumption) : WG X (.Tuple [.Name x px, .Name y py] kk pos) (.val d) δ μ P :=
  .of (pg_tup G.calm (pgs_cons (G.pg fx hi hx) (pgs_cons (G.pg fx hj hy) pgs_nil))) (eg_tup ht rfl (egs_cons (eg_name (egs_cons (eg_name (egs_nil h))))))
theorem g_tup3 (G : GX X sc N) (i j k : Nat) {x y z : Str} {px py pz : Pos} {kk : Nat} {d d1 d2 d3 : DL.D} {P : DS → List M → Prop} (ht : TupD d [d1, d2, d3]) (h : P (((δ.set i (some (.val d1))).set j (some (.val d2))).set k (some (.val d3))) μ) (hi : N[i]? = some x := by rfl) (hj : N[j]? = some y := by rfl) (hk : N[k]? = some z := by rfl)
    (hx : Loc sc x := by first | exact Or.inl rfl | exact Or.inr rfl) (hy : Loc sc y := by first | exact Or.inl rfl | exact Or.inr rfl) (hz : Loc sc z := by first | exact Or.inl rfl | exact Or.inr rfl) (fx : FX X := by assumption) : WG X (.Tuple [.Name x px, .Name y py, .Name z pz] kk pos) (.val d) δ μ P :=
  .of (pg_tup G.calm (pgs_cons (G.pg fx hi hx) (pgs_cons (G.pg fx hj hy) (pgs_cons (G.pg fx hk hz) pgs_nil)))) (eg_tup ht rfl (egs_cons (eg_name (egs_cons (eg_name (egs_cons (eg_name (egs_nil h))))))))
theorem g_tup4 (G : GX X sc N) (i j k l : Nat) {x y z u : Str} {px py pz pu : Pos} {kk : Nat} {d d1 d2 d3 d4 : DL.D} {P : DS → List M → Prop} (ht : TupD d [d1, d2, d3, d4]) (h : P ((((δ.set i (some (.val d1))).set j (some (.val d2))).set k (some (.val d3))).set l (some (.val d4))) μ) (hi : N[i]? = some x := by rfl) (hj : N[j]? = some y := by rfl) (hk : N[k]? = some z := by rfl) (hl : N[l]? = some u := by rfl)
    (hx : Loc sc x := by first | exact Or.inl rfl | exact Or.inr rfl) (hy : Loc sc y := by first | exact Or.inl rfl | exact Or.inr rfl) (hz : Loc sc z := by first | exact Or.inl rfl | exact Or.inr rfl) (hu : Loc sc u := by first | exact Or.inl rfl | exact Or.inr rfl) (fx : FX X := by assumption) : WG X (.Tuple [.Name x px, .Name y py, .Name z pz, .Name u pu] kk pos) (.val d) δ μ P :=
  .of (pg_tup G.calm (pgs_cons (G.pg fx hi hx) (pgs_cons (G.pg fx hj hy) (pgs_cons (G.pg fx hk hz) (pgs_cons (G.pg fx hl hu) pgs_nil))))) (eg_tup ht rfl (egs_cons (eg_name (egs_cons (eg_name (egs_cons (eg_name (egs_cons (eg_name (egs_nil h))))))))))
end
end DL
set_option Elab.async false
set_option linter.all false
set_option maxRecDepth 100000
set_option maxHeartbeats 2000000
/-! DL5: walks over things; enumerate of a tuple, zip of a tuple and a list. -/
namespace DL
open PySem PySem.Spec PyProof.Rows L2
open Evl (Ex)

/-! ### enumerate(tuple) -/
def IteT (K : PySem.W.Frag) (a : Addr) : It :=
  ⟨fun i H => ∃ (ys : List V) (y : V), SqT K H a ys ∧ ys[i]? = some y,
    fun i H v H' => ∃ T y, v = .ref T ∧ H T = none ∧ H' = upd H T (.tup [.int (i : Nat), y]) ∧ ∀ ys, SqT K H a ys → ys[i]? = some y,
    fun i H => ∃ ys : List V, SqT K H a ys ∧ ys.length = i⟩
theorem tuple_ne {s : Shared} {a e it : Addr} {k : Int} {old : Value} {items : Array Value} (he : IsEnum s.heap e it k old) (p : s.heap.IsTuple a items) : e ≠ a := fun z => by
  subst z
  obtain ⟨o, h1, h2, _⟩ := p
  have h3 : s.heap.get? e = some _ := he
  rw [h1] at h3
  cases h3
  simp at h2
theorem tupit_ne {s : Shared} {a it : Addr} {k : Nat} {items : Array Value} (he : s.heap.IsTupleIter it a k) (p : s.heap.IsTuple a items) : a ≠ it := fun z => by
  subst z
  obtain ⟨o, h1, h2, _⟩ := p
  obtain ⟨o', h3, h4, _⟩ := he
  rw [h1] at h3
  cases h3
  rw [h2] at h4
  simp at h4
theorem turn_enumT {P : Program} {w : World} {K : PySem.W.Frag} {elts : List Expr} {kk : Nat} {tpos : Pos} (a e it : Addr) :
    Turn P w K (.Tuple elts kk tpos) (IteT K a) [e, it] e (fun i h => (∃ old, IsEnum h e it ((i : Nat) : Int) old) ∧ h.IsTupleIter it a i ∧ e ≠ it) where
  mem := List.mem_cons_self
  obj := fun i h st b hb => by
    obtain ⟨⟨old, he⟩, ⟨o, ho, hc, hd⟩, _⟩ := st
    rcases List.mem_cons.mp hb with z | z
    · rw [z]; exact ⟨_, he, fun v q => nomatch q⟩
    · rw [List.mem_singleton.mp z]; exact ⟨o, ho, fun v q => by rw [hd] at q; cases q⟩
  keep := fun i h h' st k => let ⟨⟨old, he⟩, hi, hne⟩ := st; ⟨⟨old, k e List.mem_cons_self _ he⟩, hi.at fun o q => k it (by simp) o q, hne⟩
  item := by
    intro X hP hw hK hc i pins s σ H E I hf st hg
    subst hP hw hK
    obtain ⟨⟨old, he⟩, hit, hne⟩ := st
    obtain ⟨ys, y, hq, hy⟩ := hg
    obtain ⟨its, rv, p, hz⟩ := I.tuple hq
    obtain ⟨u, hu, ru⟩ := rv.get hy
    have hel : e < s.heap.objs.size := Heap.lt_size he
    have hil : it < s.heap.objs.size := by obtain ⟨_, q, _⟩ := hit; exact Heap.lt_size q
    have p' : s.heap.IsTuple a its.toArray := p
    have hai := tupit_ne hit p'
    have hea := tuple_ne he p'
    have hil2 : i < its.toArray.size := by simpa using (List.getElem?_eq_some_iff.mp hu).1
    refine wpAny_pyNext_enum_itemD (Draws.tuple (A := X.A.in1) (I.ok.hd hc) it a hai its.toArray) he ⟨hit, p'⟩ hil2 hne (by simp only [List.mem_cons, List.not_mem_nil, or_false, not_or]; exact ⟨hne, hea⟩) fun x h' tk hP ho hs' hT hsz hk => ?_
    have ex : x = u := by
      have hP : its.toArray[i]? = some x := hP
      rw [show its.toArray[i]? = its[i]? by simp, hu] at hP
      exact (Option.some.inj hP).symm
    subst ex
    refine ⟨_, rfl, wpAny_letOwnedTupleGo_enum (s := { s with heap := h', toks := tk + 1 }) ho fun h'' he' sb => ?_⟩
    have hT2 : h''.get? s.heap.objs.size = some { cls := .type "tuple", data := .seq #[.int i tk, x] } := (sb.2 _ (Nat.ne_of_gt hel)).trans hT
    have new : ObjOk X.prog X.w (upd H s.heap.objs.size (.tup [.int (i : Nat), y])) h'' s.heap.objs.size (.tup [.int (i : Nat), y]) :=
      ⟨by show 2 ≤ sizeLine; decide, [.int i tk, x], .cons ⟨_, rfl⟩ (.cons ru .nil), ⟨_, hT2, rfl, _, rfl⟩⟩
    have I1 : Inv X pins σ (upd H s.heap.objs.size (.tup [.int (i : Nat), y])) { s with heap := h'', toks := tk + 1 } :=
      I.turnedNew (ch := [e, it]) (fun b ob hb q => (sb.2 b (fun z => hb (by rw [z]; exact List.mem_cons_self))).trans (hk b ob (fun z => hb (by rw [z]; exact List.mem_cons_self)) (fun z => hb (by rw [z]; simp)) q)) hf (Nat.le_refl _) new
    refine ⟨.ref s.heap.objs.size, _, I1, rfl, ⟨_, y, rfl, I.hok.fresh (Nat.le_refl _), rfl, fun zs hzs => by rw [I.tuple_inj hzs hq]; exact hy⟩, ⟨⟨x, ?_⟩, hs'.1.at fun o q => (sb.2 it (Ne.symm hne)).trans q, hne⟩, fun b hb => ?_⟩
    · have e1 : ((i + 1 : Nat) : Int) = (i : Int) + 1 := by omega
      rw [e1]; exact he'
    · have hb' : b < s.heap.objs.size := by
        rcases List.mem_cons.mp hb with z | z
        · rw [z]; exact hel
        · rw [List.mem_singleton.mp z]; exact hil
      rw [upd_ne (Nat.ne_of_lt hb')]
      exact (hf b hb).1
  done := by
    intro X hP hw hK hc i pins s σ H E I hf st hg
    subst hP hw hK
    obtain ⟨⟨old, he⟩, hit, hne⟩ := st
    obtain ⟨ys, hq, hy⟩ := hg
    obtain ⟨its, rv, p, hz⟩ := I.tuple hq
    have p' : s.heap.IsTuple a its.toArray := p
    obtain ⟨f0, f1, f2, f3, f4, f5⟩ := hf it (by simp)
    have hl := rv.length
    have hi : i = its.toArray.size := by simp; omega
    refine wpAny_pyNext_enum_endD (Draws.tuple (A := X.A.in1) (I.ok.hd hc) it a (tupit_ne hit p') its.toArray) he ⟨by rw [← hi]; exact hit, p'⟩ fun h' eb => ⟨rfl, I.turned (t' := s.toks) (fun b o hb q => eb b o hb q) f0 f1 f3 f4 f5⟩
  self := fun A i s Q E st h => let ⟨⟨_, he⟩, _⟩ := st; wpAny_pyIter_enum he h
set_option maxHeartbeats 2000000 in
theorem meets_enumNewT (t : Addr) (items : Array Value) :
    Meets (Builtin.«enumerate.__new__» ⟨[.type "enumerate", .ref t], []⟩) (fun _ R s => s.heap.IsTuple t items ∧
      R (.ok (.ret (.ref (s.heap.push { cls := .type "tuple_iterator", data := .fields #[.ref t, .int 0 0] }).objs.size)))
        { s with heap := (s.heap.push { cls := .type "tuple_iterator", data := .fields #[.ref t, .int 0 0] }).push { cls := .type "enumerate", data := .fields #[.none, .bool false, .ref s.heap.objs.size, rawInt 0, .none, .none] } }) :=
  .of_wp fun prog w A R s h => by
    obtain ⟨hp, g, d, tk, os⟩ := s
    obtain ⟨h1, h⟩ := h
    have hsub := sub_enumerate
    have q1 : ∀ {A' : Around} {E : Value → Shared → Prop} {Q : Value → Shared → Prop}, Q (.ref hp.objs.size) ⟨hp.push { cls := .type "tuple_iterator", data := .fields #[.ref t, .int 0 0] }, g, d, tk, os⟩ → wpAny (model prog w) A' (pyIter (.ref t)) Q E ⟨hp, g, d, tk, os⟩ :=
      fun q => (begins_tuple t items).iter prog w _ _ ⟨hp, g, d, tk, os⟩ _ h1 q
    wp_walk using q1
    refine wpAny_stack_any fun st => wpAny_pure ?_
    split
    · rename_i c _ _ _ _ _
      cases (c == Value.type "enumerate")
      · wp_walk using q1
        exact ⟨_, rfl, h⟩
      · wp_walk using q1
        exact ⟨_, rfl, h⟩
    · wp_walk using q1
      exact ⟨_, rfl, h⟩
theorem call_enumT {prog : Program} {w : World} {A : Around} {E : Value → Shared → Prop} {s : Shared} {t : Addr} {items : Array Value} {Q : Value → Shared → Prop} (hL : s.heap.IsTuple t items)
    (h : ∀ h', IsEnum h' (s.heap.objs.size + 1) s.heap.objs.size 0 .none → h'.IsTupleIter s.heap.objs.size t 0 → (∀ b o, s.heap.get? b = some o → h'.get? b = some o) → Q (.ref (s.heap.objs.size + 1)) { s with heap := h' }) :
    wpAny (model prog w) A (call (.type "enumerate") [.ref t]) Q E s := by
  refine callType_new F.called_enumerate (by decide) (F.typeCall_enumerate_1 _) (F.newCall_enumerate_1 _) (fun obj => F.args_object_init_2 obj _) F.entry_enumerate_new (meets_enumNewT t items) ⟨hL, ?_⟩
  have hz : (s.heap.push { cls := .type "tuple_iterator", data := .fields #[.ref t, .int 0 0] }).objs.size = s.heap.objs.size + 1 := Heap.size_push ..
  show _ ∧ _
  rw [hz]
  have he := Heap.get?_push_size (s.heap.push { cls := .type "tuple_iterator", data := .fields #[.ref t, .int 0 0] }) (o := { cls := .type "enumerate", data := .fields #[.none, .bool false, .ref s.heap.objs.size, rawInt 0, .none, .none] }) rfl
  rw [hz] at he
  exact ⟨⟨_, he, rfl⟩, h _ he ⟨_, Heap.get?_push_of_some _ (Heap.get?_push_size _ rfl), rfl, rfl⟩ fun b o x => Heap.get?_push_of_some _ (Heap.get?_push_of_some _ x)⟩
def iEnumT (K : PySem.W.Frag) (ta : TA) : TI := fun σ H R => ta σ H fun vs H1 => ∃ a ys, vs = [.ref a] ∧ SqT K H1 a ys ∧ R (IteT K a) H1
theorem pi_enumT {X : Cx} {e : Expr} {ta : TA} {p pos tpos : Pos} {elts : List Expr} {kk : Nat} (hg : Gl X "enumerate") (hm : X.mg "enumerate" = none) (ha : PA X [e] ta) (hs : starEach [e] X.env = [(false, eval e X.env)]) :
    PI X (.Tuple elts kk tpos) (.Call (.Name "enumerate" p) [e] [] pos) (iEnumT X.K ta) := by
  refine ⟨fun pins s σ H R I h => ?_⟩
  refine Call_ (ld_blt I hg hm boot_enumerate (PyProof.Rows.callWith_type1 (thn (ha.run pos pins s σ H _ I h) fun us s1 ⟨vs, H1, I1, r1, q1⟩ => ?_) hs rfl))
  obtain ⟨a, ys, ex, hq, q⟩ := q1
  subst ex
  cases r1 with
  | cons r rr =>
    cases rr
    cases r
    obtain ⟨its, rv, p', hz⟩ := I1.tuple hq
    refine call_enumT (show s1.heap.IsTuple a its.toArray from p') fun h' he hit hk => wpAny_pyIter_enum he ?_
    have I2 : Inv X pins σ H1 { s1 with heap := h' } := I1.kept (t' := s1.toks) hk
    refine ⟨s1.heap.objs.size + 1, [s1.heap.objs.size + 1, s1.heap.objs.size], _, _, H1, rfl, I2, turn_enumT a (s1.heap.objs.size + 1) s1.heap.objs.size, ⟨⟨.none, he⟩, hit, Nat.succ_ne_self _⟩, fun b hb => ?_, q⟩
    have hle : s1.heap.objs.size ≤ b := by
      rcases List.mem_cons.mp hb with z | z
      · rw [z]; exact Nat.le_add_right _ _
      · rw [List.mem_singleton.mp z]; exact Nat.le_refl _
    exact I1.fpOk hle (I1.hok.fresh hle)

/-! ### zip(tuple, list) -/
theorem listit_ne {s : Shared} {a it : Addr} {k : Nat} {items : Array Value} (he : s.heap.IsListIter it a k) (p : s.heap.IsList a items) : a ≠ it := fun z => by
  subst z
  obtain ⟨o, h1, h2, _⟩ := p
  obtain ⟨o', h3, h4, _⟩ := he
  rw [h1] at h3
  cases h3
  rw [h2] at h4
  simp at h4
def ItzM (K : PySem.W.Frag) (a b : Addr) : It :=
  ⟨fun i H => ∃ (xs ys : List V) (x y : V), SqT K H a xs ∧ SqL K H b ys ∧ xs[i]? = some x ∧ ys[i]? = some y,
    fun i H v H' => ∃ T x y, v = .ref T ∧ H T = none ∧ H' = upd H T (.tup [x, y]) ∧ (∀ xs, SqT K H a xs → xs[i]? = some x) ∧ ∀ ys, SqL K H b ys → ys[i]? = some y,
    fun i H => ∃ xs ys : List V, SqT K H a xs ∧ SqL K H b ys ∧ i ≤ xs.length ∧ i ≤ ys.length ∧ (i = xs.length ∨ i = ys.length)⟩
theorem turn_zipM {P : Program} {w : World} {K : PySem.W.Frag} {elts : List Expr} {kk : Nat} {tpos : Pos} {a b : Addr} {N : Nat} (ha : @LT.lt Nat _ a N) (hb : @LT.lt Nat _ b N) :
    Turn P w K (.Tuple elts kk tpos) (ItzM K a b) [N + 4, N + 2, N + 3, N, N + 1] (N + 4) (fun i h => IsZip h (N + 4) (N + 2) (N + 3) .none ∧ IsTupOf2 h (N + 2) (.ref N) (.ref (N + 1)) ∧ (∃ x y, IsTupOf2 h (N + 3) x y) ∧ h.IsTupleIter N a i ∧ h.IsListIter (N + 1) b i) where
  mem := List.mem_cons_self
  obj := fun i h st c hcm => by
    obtain ⟨hz, hTI, ⟨x, y, hTO⟩, ⟨o1, e1, _, d1⟩, ⟨o2, e2, _, d2⟩⟩ := st
    have e' : c = N + 4 ∨ c = N + 2 ∨ c = N + 3 ∨ c = N ∨ c = N + 1 := by simpa using hcm
    rcases e' with q | q | q | q | q
    · rw [q]; exact ⟨_, hz, fun v q => nomatch q⟩
    · rw [q]; exact ⟨_, hTI, fun v q => nomatch q⟩
    · rw [q]; exact ⟨_, hTO, fun v q => nomatch q⟩
    · rw [q]; exact ⟨o1, e1, fun v q => by rw [d1] at q; cases q⟩
    · rw [q]; exact ⟨o2, e2, fun v q => by rw [d2] at q; cases q⟩
  keep := fun i h h' st k => by
    obtain ⟨hz, hTI, ⟨x, y, hTO⟩, h1, h2⟩ := st
    exact ⟨k (N + 4) (by simp) _ hz, k (N + 2) (by simp) _ hTI, ⟨x, y, k (N + 3) (by simp) _ hTO⟩, h1.at fun o q => k N (by simp) o q, h2.at fun o q => k (N + 1) (by simp) o q⟩
  item := by
    intro X hP hw hK hc i pins s σ H E I hf st hg
    subst hP hw hK
    obtain ⟨hz, hTI, ⟨x0, y0, hTO⟩, h1, h2⟩ := st
    obtain ⟨xs, ys, x, y, hqx, hqy, hx, hy⟩ := hg
    obtain ⟨its, rv, p1, _⟩ := I.tuple hqx
    obtain ⟨its2, rv2, p2, _⟩ := I.list hqy
    obtain ⟨u, hu, ru⟩ := rv.get hx
    obtain ⟨u2, hu2, ru2⟩ := rv2.get hy
    have p1' : s.heap.IsTuple a its.toArray := p1
    have hzl : @LT.lt Nat _ (N + 4) s.heap.objs.size := Heap.lt_size hz
    have hl1 : i < its.toArray.size := by simpa using (List.getElem?_eq_some_iff.mp hu).1
    have hl2 : i < its2.toArray.size := by simpa using (List.getElem?_eq_some_iff.mp hu2).1
    have S : ZipSep2 (N + 4) (N + 2) (N + 3) N (N + 1) [N, a] [N + 1, b] := zip_sep2 (fp1 := [a]) (fp2 := [b]) (fun c hcm => by rw [List.mem_singleton.mp hcm]; exact ha) (fun c hcm => by rw [List.mem_singleton.mp hcm]; exact hb)
    refine wpAny_pyNext_zipD2_item S (Draws.tuple (A := X.A.in1) (I.ok.hd hc) N a (Nat.ne_of_lt ha) its.toArray) (Draws.list (A := X.A.in1) (I.ok.hd hc) (N + 1) b (Nat.ne_of_lt (Nat.lt_succ_of_lt hb)) its2.toArray) hz hTI hTO ⟨h1, p1'⟩ ⟨h2, p2.isList⟩ hl1 hl2 fun w1 w2 h' tk q1 q2 z' TO' h1' h2' hT hsz hk => ?_
    have ex : w1 = u := by
      have q1 : its.toArray[i]? = some w1 := q1
      rw [show its.toArray[i]? = its[i]? by simp, hu] at q1
      exact (Option.some.inj q1).symm
    have ey : w2 = u2 := by
      have q2 : its2.toArray[i]? = some w2 := q2
      rw [show its2.toArray[i]? = its2[i]? by simp, hu2] at q2
      exact (Option.some.inj q2).symm
    subst ex ey
    refine ⟨_, rfl, wpAny_letOwnedTupleGo_zip (s := { s with heap := h', toks := tk }) z' fun h'' z'' sb => ?_⟩
    have hT2 : h''.get? s.heap.objs.size = some { cls := .type "tuple", data := .seq #[w1, w2] } := (sb.2 _ (Nat.ne_of_gt hzl)).trans hT
    have new : ObjOk X.prog X.w (upd H s.heap.objs.size (.tup [x, y])) h'' s.heap.objs.size (.tup [x, y]) :=
      ⟨by show 2 ≤ sizeLine; decide, [w1, w2], .cons ru (.cons ru2 .nil), ⟨_, hT2, rfl, _, rfl⟩⟩
    have I1 : Inv X pins σ (upd H s.heap.objs.size (.tup [x, y])) { s with heap := h'', toks := tk } :=
      I.turnedNew (t' := tk) (ch := [N + 4, N + 2, N + 3, N, N + 1]) (fun c o hcm q => (sb.2 c (fun q' => hcm (by simp [q']))).trans (hk c o (fun q' => hcm (by simp [q'])) (fun q' => hcm (by simp [q'])) (fun q' => hcm (by simp [q'])) (fun q' => hcm (by simp [q'])) q)) hf (Nat.le_refl _) new
    have n2 : (N + 2 : Nat) ≠ N + 4 := by omega
    have n3 : (N + 3 : Nat) ≠ N + 4 := by omega
    have n0 : (N : Nat) ≠ N + 4 := by omega
    have n1 : (N + 1 : Nat) ≠ N + 4 := by omega
    refine ⟨.ref s.heap.objs.size, _, I1, rfl, ⟨_, x, y, rfl, I.hok.fresh (Nat.le_refl _), rfl, fun l hl => by rw [I.tuple_inj hl hqx]; exact hx, fun l hl => by rw [I.list_inj hl hqy]; exact hy⟩, ⟨z'', ?_, ⟨w1, w2, ?_⟩, ?_, ?_⟩, fun c hcm => ?_⟩
    · exact (sb.2 _ n2).trans (hk _ _ n2 (show (N + 2 : Nat) ≠ N + 3 by omega) (show (N + 2 : Nat) ≠ N by omega) (show (N + 2 : Nat) ≠ N + 1 by omega) hTI)
    · exact (sb.2 _ n3).trans TO'
    · exact h1'.1.at fun o q => (sb.2 _ n0).trans q
    · exact h2'.1.at fun o q => (sb.2 _ n1).trans q
    · have hlt : c < s.heap.objs.size := by
        have e' : c = N + 4 ∨ c = N + 2 ∨ c = N + 3 ∨ c = N ∨ c = N + 1 := by simpa using hcm
        have key : ∀ k : Nat, k ≤ 4 → @LT.lt Nat _ (N + k) s.heap.objs.size := fun k hk => by omega
        rcases e' with q | q | q | q | q
        · rw [q]; exact key 4 (by decide)
        · rw [q]; exact key 2 (by decide)
        · rw [q]; exact key 3 (by decide)
        · rw [q]; exact key 0 (by decide)
        · rw [q]; exact key 1 (by decide)
      rw [upd_ne (Nat.ne_of_lt hlt)]
      exact (hf c hcm).1
  done := by
    intro X hP hw hK hc i pins s σ H E I hf st hg
    subst hP hw hK
    obtain ⟨hz, hTI, ⟨x0, y0, hTO⟩, h1, h2⟩ := st
    obtain ⟨xs, ys, hqx, hqy, hi1, hi2, hend⟩ := hg
    obtain ⟨its, rv, p1, _⟩ := I.tuple hqx
    obtain ⟨its2, rv2, p2, _⟩ := I.list hqy
    have l1 := rv.length
    have l2 := rv2.length
    have p1' : s.heap.IsTuple a its.toArray := p1
    have S : ZipSep2 (N + 4) (N + 2) (N + 3) N (N + 1) [N, a] [N + 1, b] := zip_sep2 (fp1 := [a]) (fp2 := [b]) (fun c hcm => by rw [List.mem_singleton.mp hcm]; exact ha) (fun c hcm => by rw [List.mem_singleton.mp hcm]; exact hb)
    refine wpAny_pyNext_zipD2_end S (Draws.tuple (A := X.A.in1) (I.ok.hd hc) N a (Nat.ne_of_lt ha) its.toArray) (Draws.list (A := X.A.in1) (I.ok.hd hc) (N + 1) b (Nat.ne_of_lt (Nat.lt_succ_of_lt hb)) its2.toArray) hz hTI hTO ⟨h1, p1'⟩ ⟨h2, p2.isList⟩ (by simp; omega) (by simp; omega) (by simp; omega) fun h' tk hk => ⟨rfl, I.turnedL (t' := tk) (ch := [N + 4, N + 2, N + 3, N, N + 1]) (fun c o hcm q =>
      hk c o (fun q' => hcm (by simp [q'])) (fun q' => hcm (by simp [q'])) (fun q' => hcm (by simp [q'])) (fun q' => hcm (by simp [q'])) q) hf⟩
  self := fun A i s Q E st h => wpAny_pyIter_zip st.1 h
def iZipM (K : PySem.W.Frag) (ta : TA) : TI := fun σ H R => ta σ H fun vs H1 => ∃ a b xs ys, vs = [.ref a, .ref b] ∧ SqT K H1 a xs ∧ SqL K H1 b ys ∧ R (ItzM K a b) H1
theorem pi_zipM {X : Cx} {e e2 : Expr} {ta : TA} {p pos tpos : Pos} {elts : List Expr} {kk : Nat} (hg : Gl X "zip") (hm : X.mg "zip" = none) (ha : PA X [e, e2] ta)
    (hs : starEach [e, e2] X.env = (false, eval e X.env) :: starEach [e2] X.env) (hpl : (backTo pos (starEach [e2] X.env)).any (·.1) = false) :
    PI X (.Tuple elts kk tpos) (.Call (.Name "zip" p) [e, e2] [] pos) (iZipM X.K ta) := by
  refine ⟨fun pins s σ H R I h => ?_⟩
  refine Call_ (ld_blt I hg hm PyProof.Rows.boot_zip (PyProof.Rows.callWith_type1 (thn (ha.run pos pins s σ H _ I h) fun us s1 ⟨vs, H1, I1, r1, q1⟩ => ?_) hs hpl))
  obtain ⟨a, b, xs, ys, ex, hqx, hqy, q⟩ := q1
  subst ex
  cases r1 with
  | cons r rr =>
    cases rr with
    | cons r' rr =>
      cases rr
      cases r
      cases r'
      obtain ⟨its, rv, p1, _⟩ := I1.tuple hqx
      obtain ⟨its2, rv2, p2, _⟩ := I1.list hqy
      have p1' : s1.heap.IsTuple a its.toArray := p1
      obtain ⟨o1, ho1, _⟩ := id p1'
      refine zip_begins2 (begins_tuple a its.toArray) (begins_list b its2.toArray) p1' p2.isList fun h' hz hTI hTO h1 h2 hsz hk => wpAny_pyIter_zip hz ?_
      have I2 : Inv X pins σ H1 { s1 with heap := h' } := I1.kept (t' := s1.toks) hk
      refine ⟨s1.heap.objs.size + 4, [s1.heap.objs.size + 4, s1.heap.objs.size + 2, s1.heap.objs.size + 3, s1.heap.objs.size, s1.heap.objs.size + 1], _, _, H1, rfl, I2, turn_zipM (Heap.lt_size ho1) p2.lt, ⟨hz, hTI, ⟨_, _, hTO⟩, ⟨_, h1, rfl, rfl⟩, ⟨_, h2, rfl, rfl⟩⟩, fun c hcm => ?_, q⟩
      have hle : s1.heap.objs.size ≤ c := by
        have e' : c = s1.heap.objs.size + 4 ∨ c = s1.heap.objs.size + 2 ∨ c = s1.heap.objs.size + 3 ∨ c = s1.heap.objs.size ∨ c = s1.heap.objs.size + 1 := by simpa using hcm
        rcases e' with z | z | z | z | z <;> (rw [z]; first | exact Nat.le_add_right _ _ | exact Nat.le_refl _)
      exact I1.fpOk hle (I1.hok.fresh hle)
end DL
set_option Elab.async false
set_option linter.all false
set_option maxRecDepth 100000
set_option maxHeartbeats 2000000
/-! DL6: rules of walks and comprehensions. -/
namespace DL
open PySem PySem.Spec PyProof.Rows L2
open Evl (Ex)
/-- what must hold of the store as long as w is walked -/
def keepW : W → List D → List M → Prop
  | .own k, xs, μ => μ[k]? = some (.ml xs)
  | .val _, _, _ => True
section
variable {K : PySem.W.Frag} {G H : Hp} {A : List Addr} {μ : List M} {J : It} {keep : List M → Prop}
theorem itd_at {Gd : Hp → Prop} {vs : List V} {xs : List D} (r : Reps K G vs xs) (wk : Walk J vs.length Gd (YAt vs)) (hg : ∀ G' H' A' μ', Step G H A G' H' A' → Con K G' H' A' μ' → keep μ' → Gd H') : ItD K J G H A xs keep := by
  refine ⟨Gd, YAt vs, by rw [← r.length]; exact wk, hg, fun i d G' H' A' μ' x H'' hd st c' _ y => ?_⟩
  obtain ⟨rfl, hx⟩ := y
  obtain ⟨v, hv, rv⟩ := r.get hd
  rw [hx] at hv
  cases hv
  exact ⟨G', Step.refl, c', rv.mono st.g⟩
theorem itd_pair {n : Nat} {Gd : Hp → Prop} {fx fy : Nat → Option V} {ds : List D} (hn : ds.length = n) (wk : Walk J n Gd (YPair fx fy)) (hg : ∀ G' H' A' μ', Step G H A G' H' A' → Con K G' H' A' μ' → keep μ' → Gd H')
    (hr : ∀ (i : Nat) (d : D) (x y : V), ds[i]? = some d → fx i = some x → fy i = some y → ∃ dx dy, d = .tup [dx, dy] ∧ Rep K G x dx ∧ Rep K G y dy) : ItD K J G H A ds keep := by
  refine ⟨Gd, YPair fx fy, by rw [hn]; exact wk, hg, fun i d G' H' A' μ' v H'' hd st c' _ y => ?_⟩
  obtain ⟨T, x, y, rfl, hT, rfl, h1, h2⟩ := y
  obtain ⟨dx, dy, rfl, r1, r2⟩ := hr i d x y hd h1 h2
  obtain ⟨c2, s2⟩ := c'.newG hT (.tup [x, y])
  exact ⟨_, s2, c2, .tup upd_same (.cons ((r1.mono st.g).mono s2.g) (.cons ((r2.mono st.g).mono s2.g) .nil))⟩
/-- a list stays -/
theorem LstW.stays {w : W} {v : V} {xs : List D} (s : LstW μ w xs) (c : Con K G H A μ) (r : RepW K G A v w) : ∃ a vs, v = .ref a ∧ SqL K H a vs ∧ Reps K G vs xs ∧
    ∀ G' H' A' μ', Step G H A G' H' A' → Con K G' H' A' μ' → keepW w xs μ' → ∃ vs', SqL K H' a vs' ∧ Reps K G' vs' xs := by
  cases s with
  | lst =>
    cases r with
    | lst h1 h2 => exact ⟨_, _, rfl, SqL.of (c.gh _ _ h1), h2, fun G' H' A' μ' st c' _ => ⟨_, SqL.of (c'.gh _ _ (st.g _ _ h1)), h2.mono st.g⟩⟩
  | sq =>
    cases r with
    | sq h1 h2 => exact ⟨_, _, rfl, Evl.ex_l c.gh h1, h2, fun G' H' A' μ' st c' _ => ⟨_, Evl.ex_l c'.gh (Evl.ex_l st.g h1), h2.mono st.g⟩⟩
  | own h =>
    obtain ⟨a, vs, rfl, ha, h1, h2⟩ := c.ownL h r
    refine ⟨a, vs, rfl, SqL.of h1, h2, fun G' H' A' μ' st c' hk => ?_⟩
    have r' : RepW K G' A' (.ref a) (.own _) := r.step st
    obtain ⟨a', vs', e, ha', h1', h2'⟩ := c'.ownL hk r'
    cases e
    exact ⟨vs', SqL.of h1', h2'⟩
/-- the i-th of a list that may be an owned one -/
theorem itd_lst {w : W} {v : V} {xs : List D} (s : LstW μ w xs) (c : Con K G H A μ) (r : RepW K G A v w) : ∃ a, v = .ref a ∧ (∃ vs, SqL K H a vs) ∧ ItD K (Itl K a) G H A xs (keepW w xs) := by
  obtain ⟨a, vs, rfl, hq, rs, hs⟩ := s.stays c r
  refine ⟨a, rfl, ⟨vs, hq⟩, fun H' => ∃ vs, SqL K H' a vs ∧ vs.length = xs.length, fun i H x H' => H' = H ∧ ∀ vs, SqL K H a vs → vs[i]? = some x, ⟨fun i H' hi ⟨vs, h1, h2⟩ => ⟨vs, vs[i]'(by rw [h2]; exact hi), h1, by simp⟩, fun H' ⟨vs, h1, h2⟩ => ⟨vs, h1, by omega⟩, fun i H1 x H2 hi _ y => y⟩,
    fun G' H' A' μ' st c' hk => let ⟨vs', h1, h2⟩ := hs G' H' A' μ' st c' hk; ⟨vs', h1, h2.length⟩, fun i d G' H' A' μ' x H'' hd st c' hk y => ?_⟩
  obtain ⟨rfl, hy⟩ := y
  obtain ⟨vs', h1, h2⟩ := hs G' _ A' μ' st c' hk
  obtain ⟨u, hu, ru⟩ := h2.get hd
  rw [hy vs' h1] at hu
  cases hu
  exact ⟨G', Step.refl, c', ru⟩
end
section
variable {X : Cx} {sc : Scope} {N : List Str} {δ : DS} {μ : List M} {R : List D → (List M → Prop) → List M → Prop} {tg a b e : Expr} {pos p tpos : Pos} {elts : List Expr} {kk : Nat}
/-- for .. in tuple -/
theorem i_tup (h : WE X e δ μ fun w μ1 => ∃ d xs, w = .val d ∧ TupD d xs ∧ R xs (fun _ => True) μ1) : WI X tg e δ μ R := .of (pi_tup pe_w) fun G H A σ c s Q l =>
  h G H A σ c s _ fun v w G1 H1 A1 μ1 s1 c1 r1 ⟨d, xs, e, ht, h1⟩ => by
    subst e
    obtain ⟨a, vs, rfl, h2, rs⟩ := Rep.tupD r1 ht
    refine ⟨a, rfl, ⟨vs, .inl (Evl.ex_rd c1.gh h2)⟩, l _ xs _ _ _ _ _ s1 c1 (itd_at rs walk_tup fun G' H' A' μ' st c' _ => .inl (Evl.ex_rd c'.gh (Evl.ex_rd st.g h2))) h1⟩
theorem i_lst (h : WE X e δ μ fun w μ1 => ∃ xs, LstW μ1 w xs ∧ R xs (keepW w xs) μ1) : WI X tg e δ μ R := .of (pi_list pe_w) fun G H A σ c s Q l =>
  h G H A σ c s _ fun v w G1 H1 A1 μ1 s1 c1 r1 ⟨xs, hl, h1⟩ => by
    obtain ⟨a, rfl, hq, hi⟩ := itd_lst hl c1 r1
    exact ⟨a, rfl, hq, l _ xs _ _ _ _ _ s1 c1 hi h1⟩
def rng (lo : Int) (n : Nat) : List D := (List.range n).map fun i : Nat => .int (lo + i)
theorem rng_length (lo : Int) (n : Nat) : (rng lo n).length = n := by simp [rng]
theorem rng_get {lo : Int} {n i : Nat} {d : D} (h : (rng lo n)[i]? = some d) : i < n ∧ d = .int (lo + i) := by
  unfold rng at h
  rw [List.getElem?_map] at h
  by_cases hi : i < n
  · rw [List.getElem?_range hi] at h
    cases h
    exact ⟨hi, rfl⟩
  · rw [List.getElem?_eq_none (by simpa using hi)] at h
    cases h
theorem itd_rng {K : PySem.W.Frag} {G H : Hp} {A : List Addr} {lo : Int} {n : Nat} : ItD K (Itr lo n) G H A (rng lo n) (fun _ => True) := by
  refine ⟨fun _ => True, YFn fun i => .int (lo + i), by rw [rng_length]; exact walk_range, fun _ _ _ _ _ _ _ => trivial, fun i d G' H' A' μ' x H'' hd st c' _ y => ?_⟩
  obtain ⟨rfl, rfl⟩ := y
  obtain ⟨_, rfl⟩ := rng_get hd
  exact ⟨G', Step.refl, c', .int _⟩
theorem wa1 {RL : List W → List M → Prop} (h : WE X a δ μ fun w μ1 => RL [w] μ1) (hs : starEach [a] X.env = (false, eval a X.env) :: starEach [] X.env) : WA X [a] δ μ RL := a_cons (h.mono fun _ _ h => a_nil h) hs
theorem wa2 {RL : List W → List M → Prop} (h : WE X a δ μ fun w μ1 => WE X b δ μ1 fun w2 μ2 => RL [w, w2] μ2) (hs : starEach [a, b] X.env = (false, eval a X.env) :: starEach [b] X.env) (hs2 : starEach [b] X.env = (false, eval b X.env) :: starEach [] X.env) : WA X [a, b] δ μ RL := a_cons (h.mono fun _ _ h => a_cons (h.mono fun _ _ h => a_nil h) hs2) hs
theorem i_rng1 (G : GX X sc N) (hm : (moOf X).mg "range" = none) (h : WE X a δ μ fun w μ1 => ∃ j : Int, w = .val (.int j) ∧ -(2 ^ 62) ≤ j ∧ j < 2 ^ 62 ∧ R (rng 0 j.toNat) (fun _ => True) μ1) (hg : sc.names.lookup ("range" : Str) = some .globalImplicit := by rfl) (hs : starEach [a] X.env = (false, eval a X.env) :: starEach [] X.env := by rfl) : WI X tg (.Call (.Name "range" p) [a] [] pos) δ μ R :=
  .of (pi_range1 (G.gl hg) hm pa_w hs) fun G H A σ c s Q l =>
    (wa1 (RL := fun ws μ1 => ∃ j : Int, ws = [.val (.int j)] ∧ -(2 ^ 62) ≤ j ∧ j < 2 ^ 62 ∧ R (rng 0 j.toNat) (fun _ => True) μ1) (h.mono fun w μ1 ⟨j, e, h⟩ => ⟨j, by rw [e], h⟩) hs) G H A σ c s _ fun vs ws G1 H1 A1 μ1 s1 c1 r1 ⟨j, e, h1, h2, h3⟩ => by
      subst e
      obtain ⟨v, rfl, r⟩ := rws1 r1
      cases r
      exact ⟨j, rfl, h1, h2, l _ _ _ _ _ _ _ s1 c1 itd_rng h3⟩
theorem i_rng2 (G : GX X sc N) (hm : (moOf X).mg "range" = none) (h : WE X a δ μ fun w μ1 => WE X b δ μ1 fun w2 μ2 => II w w2 fun i j => (-(2 ^ 62) ≤ i ∧ i < 2 ^ 62 ∧ -(2 ^ 62) ≤ j ∧ j < 2 ^ 62) ∧ R (rng i (j - i).toNat) (fun _ => True) μ2) (hg : sc.names.lookup ("range" : Str) = some .globalImplicit := by rfl) (hs : starEach [a, b] X.env = (false, eval a X.env) :: starEach [b] X.env := by rfl) (hs2 : starEach [b] X.env = (false, eval b X.env) :: starEach [] X.env := by rfl) : WI X tg (.Call (.Name "range" p) [a, b] [] pos) δ μ R :=
  .of (pi_range2 (G.gl hg) hm pa_w (by rw [hs, hs2]; rfl) hs2) fun G H A σ c s Q l =>
    (wa2 (RL := fun ws μ2 => ∃ i j : Int, ws = [.val (.int i), .val (.int j)] ∧ (-(2 ^ 62) ≤ i ∧ i < 2 ^ 62 ∧ -(2 ^ 62) ≤ j ∧ j < 2 ^ 62) ∧ R (rng i (j - i).toNat) (fun _ => True) μ2) (h.mono fun w μ1 h => h.mono fun w2 μ2 ⟨i, j, e1, e2, h⟩ => ⟨i, j, by rw [e1, e2], h⟩) hs hs2) G H A σ c s _ fun vs ws G1 H1 A1 μ1 s1 c1 r1 ⟨i, j, e, h1, h2⟩ => by
      subst e
      obtain ⟨v, v', rfl, r, r'⟩ := rws2 r1
      cases r; cases r'
      exact ⟨i, j, rfl, h1, l _ _ _ _ _ _ _ s1 c1 itd_rng h2⟩
def sgns (z : Str) : List D := z.cps.toList.map fun c => .str ⟨#[c]⟩
theorem i_str (h : WE X e δ μ fun w μ1 => ∃ z : Str, w = .val (.str z) ∧ R (sgns z) (fun _ => True) μ1) : WI X tg e δ μ R := .of (pi_str pe_w) fun G H A σ c s Q l =>
  h G H A σ c s _ fun v w G1 H1 A1 μ1 s1 c1 r1 ⟨z, e, h1⟩ => by
    subst e
    cases r1
    refine ⟨z, rfl, l _ _ _ _ _ _ _ s1 c1 ⟨fun _ => True, _, by rw [show (sgns z).length = z.cps.size by simp [sgns]]; exact walk_str, fun _ _ _ _ _ _ _ => trivial, fun i d G' H' A' μ' x H'' hd st c' _ y => ?_⟩ h1⟩
    obtain ⟨rfl, c, hc, rfl⟩ := y
    unfold sgns at hd
    rw [List.getElem?_map, show z.cps.toList[i]? = z.cps[i]? by simp, hc] at hd
    cases hd
    exact ⟨G', Step.refl, c', .str _⟩
/-- enumerate -/
def enumD (xs : List D) : List D := (List.range xs.length).zipWith (fun (i : Nat) x => .tup [.int i, x]) xs
theorem enumD_length (xs : List D) : (enumD xs).length = xs.length := by simp [enumD]
theorem enumD_get {xs : List D} {i : Nat} {d : D} (h : (enumD xs)[i]? = some d) : ∃ x, xs[i]? = some x ∧ d = .tup [.int i, x] := by
  have hi : i < xs.length := by
    have := (List.getElem?_eq_some_iff.mp h).1
    rwa [enumD_length] at this
  unfold enumD at h
  rw [List.getElem?_zipWith, List.getElem?_range hi, List.getElem?_eq_getElem hi] at h
  cases h
  exact ⟨xs[i], List.getElem?_eq_getElem hi, rfl⟩
theorem i_enum (G : GX X sc N) (hm : (moOf X).mg "enumerate" = none) (h : WE X e δ μ fun w μ1 => ∃ xs, w = .val (.lst xs) ∧ R (enumD xs) (fun _ => True) μ1) (hg : sc.names.lookup ("enumerate" : Str) = some .globalImplicit := by rfl) (hs : starEach [e] X.env = (false, eval e X.env) :: starEach [] X.env := by rfl) : WI X (.Tuple elts kk tpos) (.Call (.Name "enumerate" p) [e] [] pos) δ μ R :=
  .of (pi_enum (G.gl hg) hm pa_w hs) fun G H A σ c s Q l =>
    (wa1 (RL := fun ws μ1 => ∃ xs, ws = [.val (.lst xs)] ∧ R (enumD xs) (fun _ => True) μ1) (h.mono fun w μ1 ⟨xs, e, h⟩ => ⟨xs, by rw [e], h⟩) hs) G H A σ c s _ fun vs ws G1 H1 A1 μ1 s1 c1 r1 ⟨xs, e, h1⟩ => by
      subst e
      obtain ⟨v, rfl, r⟩ := rws1 r1
      cases r with
      | lst q1 rs =>
        refine ⟨_, _, rfl, SqL.of (c1.gh _ _ q1), l _ _ _ _ _ _ _ s1 c1 (itd_pair (by rw [enumD_length, rs.length]) walk_enum (fun G' H' A' μ' st c' _ => SqL.of (c'.gh _ _ (st.g _ _ q1))) fun i d' x y hd hx hy => ?_) h1⟩
        obtain ⟨z, hz, rfl⟩ := enumD_get hd
        cases hx
        obtain ⟨u, hu, ru⟩ := rs.get hz
        rw [hu] at hy
        cases hy
        exact ⟨_, _, rfl, .int _, ru⟩
theorem walk_enumT {K : PySem.W.Frag} {a : Addr} {xs : List V} : Walk (IteT K a) xs.length (fun H => SqT K H a xs) (YPair (fun i => some (.int (i : Nat))) (fun i => xs[i]?)) := by
  refine ⟨fun i _ hi q => ⟨xs, xs[i], q, by simp [hi]⟩, fun _ q => ⟨xs, q, rfl⟩, fun i H v H' _ q y => ?_⟩
  obtain ⟨T, x, h1, h2, h3, h4⟩ := y
  exact ⟨T, .int (i : Nat), x, h1, h2, h3, rfl, h4 xs q⟩
theorem i_enumT (G : GX X sc N) (hm : (moOf X).mg "enumerate" = none) (h : WE X e δ μ fun w μ1 => ∃ d xs, w = .val d ∧ TupD d xs ∧ R (enumD xs) (fun _ => True) μ1) (hg : sc.names.lookup ("enumerate" : Str) = some .globalImplicit := by rfl) (hs : starEach [e] X.env = (false, eval e X.env) :: starEach [] X.env := by rfl) : WI X (.Tuple elts kk tpos) (.Call (.Name "enumerate" p) [e] [] pos) δ μ R :=
  .of (pi_enumT (G.gl hg) hm pa_w hs) fun G H A σ c s Q l =>
    (wa1 (RL := fun ws μ1 => ∃ d xs, ws = [.val d] ∧ TupD d xs ∧ R (enumD xs) (fun _ => True) μ1) (h.mono fun w μ1 ⟨d, xs, e, h⟩ => ⟨d, xs, by rw [e], h⟩) hs) G H A σ c s _ fun vs ws G1 H1 A1 μ1 s1 c1 r1 ⟨d, xs, e, ht, h1⟩ => by
      subst e
      obtain ⟨v, rfl, r⟩ := rws1 r1
      obtain ⟨a, us, rfl, q1, rs⟩ := Rep.tupD r ht
      refine ⟨_, _, rfl, .inl (Evl.ex_rd c1.gh q1), l _ _ _ _ _ _ _ s1 c1 (itd_pair (by rw [enumD_length, rs.length]) walk_enumT (fun G' H' A' μ' st c' _ => .inl (Evl.ex_rd c'.gh (Evl.ex_rd st.g q1))) fun i d' x y hd hx hy => ?_) h1⟩
      obtain ⟨z, hz, rfl⟩ := enumD_get hd
      cases hx
      obtain ⟨u, hu, ru⟩ := rs.get hz
      rw [hu] at hy
      cases hy
      exact ⟨_, _, rfl, .int _, ru⟩
/-- zip -/
def zipD (xs ys : List D) : List D := xs.zipWith (fun x y => .tup [x, y]) ys
theorem zipD_length (xs ys : List D) : (zipD xs ys).length = min xs.length ys.length := by simp [zipD]
theorem zipD_get {xs ys : List D} {i : Nat} {d : D} (h : (zipD xs ys)[i]? = some d) : ∃ x y, xs[i]? = some x ∧ ys[i]? = some y ∧ d = .tup [x, y] := by
  have hi : i < min xs.length ys.length := by
    have := (List.getElem?_eq_some_iff.mp h).1
    rwa [zipD_length] at this
  have h1 : i < xs.length := by omega
  have h2 : i < ys.length := by omega
  unfold zipD at h
  rw [List.getElem?_zipWith, List.getElem?_eq_getElem h1, List.getElem?_eq_getElem h2] at h
  cases h
  exact ⟨xs[i], ys[i], List.getElem?_eq_getElem h1, List.getElem?_eq_getElem h2, rfl⟩
theorem i_zip (G : GX X sc N) (hm : (moOf X).mg "zip" = none) (h : WE X a δ μ fun w μ1 => WE X b δ μ1 fun w2 μ2 => ∃ xs ys, w = .val (.lst xs) ∧ w2 = .val (.lst ys) ∧ R (zipD xs ys) (fun _ => True) μ2) (hg : sc.names.lookup ("zip" : Str) = some .globalImplicit := by rfl) (hs : starEach [a, b] X.env = (false, eval a X.env) :: starEach [b] X.env := by rfl) (hs2 : starEach [b] X.env = (false, eval b X.env) :: starEach [] X.env := by rfl) : WI X (.Tuple elts kk tpos) (.Call (.Name "zip" p) [a, b] [] pos) δ μ R :=
  .of (pi_zip (G.gl hg) hm pa_w hs (by rw [hs2]; rfl)) fun G H A σ c s Q l =>
    (wa2 (RL := fun ws μ2 => ∃ xs ys, ws = [.val (.lst xs), .val (.lst ys)] ∧ R (zipD xs ys) (fun _ => True) μ2) (h.mono fun w μ1 h => h.mono fun w2 μ2 ⟨xs, ys, e1, e2, h⟩ => ⟨xs, ys, by rw [e1, e2], h⟩) hs hs2) G H A σ c s _ fun vs ws G1 H1 A1 μ1 s1 c1 r1 ⟨xs, ys, e, h1⟩ => by
      subst e
      obtain ⟨v, v', rfl, r, r'⟩ := rws2 r1
      cases r with
      | lst q1 rs =>
        cases r' with
        | lst q2 rs2 =>
          refine ⟨_, _, _, _, rfl, SqL.of (c1.gh _ _ q1), SqL.of (c1.gh _ _ q2), l _ _ _ _ _ _ _ s1 c1 (itd_pair (n := min xs.length ys.length) (zipD_length _ _) (walk_zip (by rw [rs.length, rs2.length])) (fun G' H' A' μ' st c' _ => ⟨SqL.of (c'.gh _ _ (st.g _ _ q1)), SqL.of (c'.gh _ _ (st.g _ _ q2))⟩) fun i d' x y hd hx hy => ?_) h1⟩
          obtain ⟨z1, z2, hz1, hz2, rfl⟩ := zipD_get hd
          obtain ⟨u, hu, ru⟩ := rs.get hz1
          obtain ⟨u2, hu2, ru2⟩ := rs2.get hz2
          rw [hu] at hx
          rw [hu2] at hy
          cases hx; cases hy
          exact ⟨_, _, rfl, ru, ru2⟩
theorem walk_zipM {K : PySem.W.Frag} {a b : Addr} {xs ys : List V} {n : Nat} (hn : n = min xs.length ys.length) : Walk (ItzM K a b) n (fun H => SqT K H a xs ∧ SqL K H b ys) (YPair (fun i => xs[i]?) (fun i => ys[i]?)) := by
  subst hn
  refine ⟨fun i _ hi q => ?_, fun _ q => ⟨xs, ys, q.1, q.2, by omega, by omega, by omega⟩, fun i H v H' _ q y => ?_⟩
  · have h1 : i < xs.length := by omega
    have h2 : i < ys.length := by omega
    exact ⟨xs, ys, xs[i], ys[i], q.1, q.2, by simp [h1], by simp [h2]⟩
  · obtain ⟨T, x, z, h1, h2, h3, h4, h5⟩ := y
    exact ⟨T, x, z, h1, h2, h3, h4 xs q.1, h5 ys q.2⟩
theorem i_zipM (G : GX X sc N) (hm : (moOf X).mg "zip" = none) (h : WE X a δ μ fun w μ1 => WE X b δ μ1 fun w2 μ2 => ∃ d xs ys, w = .val d ∧ TupD d xs ∧ w2 = .val (.lst ys) ∧ R (zipD xs ys) (fun _ => True) μ2) (hg : sc.names.lookup ("zip" : Str) = some .globalImplicit := by rfl) (hs : starEach [a, b] X.env = (false, eval a X.env) :: starEach [b] X.env := by rfl) (hs2 : starEach [b] X.env = (false, eval b X.env) :: starEach [] X.env := by rfl) : WI X (.Tuple elts kk tpos) (.Call (.Name "zip" p) [a, b] [] pos) δ μ R :=
  .of (pi_zipM (G.gl hg) hm pa_w hs (by rw [hs2]; rfl)) fun G H A σ c s Q l =>
    (wa2 (RL := fun ws μ2 => ∃ d xs ys, ws = [.val d, .val (.lst ys)] ∧ TupD d xs ∧ R (zipD xs ys) (fun _ => True) μ2) (h.mono fun w μ1 h => h.mono fun w2 μ2 ⟨d, xs, ys, e1, t, e2, h⟩ => ⟨d, xs, ys, by rw [e1, e2], t, h⟩) hs hs2) G H A σ c s _ fun vs ws G1 H1 A1 μ1 s1 c1 r1 ⟨d, xs, ys, e, ht, h1⟩ => by
      subst e
      obtain ⟨v, v', rfl, r, r'⟩ := rws2 r1
      obtain ⟨a, us, rfl, q1, rs⟩ := Rep.tupD r ht
      cases r' with
      | lst q2 rs2 =>
        refine ⟨_, _, _, _, rfl, .inl (Evl.ex_rd c1.gh q1), SqL.of (c1.gh _ _ q2), l _ _ _ _ _ _ _ s1 c1 (itd_pair (n := min xs.length ys.length) (zipD_length _ _) (walk_zipM (by rw [rs.length, rs2.length])) (fun G' H' A' μ' st c' _ => ⟨.inl (Evl.ex_rd c'.gh (Evl.ex_rd st.g q1)), SqL.of (c'.gh _ _ (st.g _ _ q2))⟩) fun i d' x y hd hx hy => ?_) h1⟩
        obtain ⟨z1, z2, hz1, hz2, rfl⟩ := zipD_get hd
        obtain ⟨u, hu, ru⟩ := rs.get hz1
        obtain ⟨u2, hu2, ru2⟩ := rs2.get hz2
        rw [hu] at hx
        rw [hu2] at hy
        cases hx; cases hy
        exact ⟨_, _, rfl, ru, ru2⟩
end
end DL
set_option Elab.async false
set_option linter.all false
set_option maxRecDepth 100000
set_option maxHeartbeats 2000000
/-! DL7: comprehensions by their text. -/
namespace DL
open PySem PySem.Spec PyProof.Rows L2
open Evl (Ex)
/-- where a block begins -/
structure Bk where
  s : Shared
  H : Hp
  C : Addr
  cl : List (Str × Addr)
  fp : List Addr
abbrev bkX (X : Cx) (scope : Scope) (b : Bk) : Cx := X.blk b.s b.H scope (compEnvC scope b.cl b.C X.env) b.fp
theorem GX.bk {X : Cx} {sc scope : Scope} {N : List Str} {b : Bk} (G : GX X sc N) (hk : scope.kind = .function) : GX (bkX X scope b) (relS scope sc) N := by
  refine ⟨G.n, ?_, hk, G.calm, G.nd, rfl⟩
  show relabel scope X.env = relS scope sc
  rw [← G.esc]
  rfl
def wTs (X : Cx) (ifs : List Expr) : TT := fun σ H Q => ∀ pins s, Inv X pins σ H s → wpAny (model X.prog X.w) X.A (forIn ifs true fun c r => if r = true then do let ok ← isTrue c X.env (eval c X.env); pure (ForInStep.yield ok) else pure (ForInStep.yield r)) (TP X pins σ Q) X.xe s
theorem pts_w {X : Cx} {ifs : List Expr} : PTs X ifs (wTs X ifs) := ⟨fun pins s σ H Q I h => h pins s I⟩
def WTs (X : Cx) (ifs : List Expr) (δ : DS) (μ : List M) (R : Bool → List M → Prop) : Prop := EvT X.K (wTs X ifs) δ μ R
def WC (X : Cx) (tg : Expr) (vs : List Nat) (w : W) (δ : DS) (μ : List M) (P : DS → List M → Prop) : Prop := EvC X.K (wG X tg) vs w δ μ P
section
variable {X : Cx} {sc : Scope} {N : List Str} {δ : DS} {μ : List M} {P : DS → List M → Prop} {RB : Bool → List M → Prop} {tg e c : Expr} {vs : List Nat} {pos : Pos} {w : W}
theorem ts_nil (h : RB true μ) : WTs X [] δ μ RB := fun G H A σ c s Q l pins s' I => pts_nil.run pins s' σ H Q I (et_yes (K := X.K) h G H A σ c s Q l)
theorem ts_one (h : WT X c δ μ RB) : WTs X [c] δ μ RB := fun G H A σ cc s Q l pins s' I => (pts_one pt_w).run pins s' σ H Q I (h G H A σ cc s Q l)
theorem WC.of {t : TG} (hp : PG X tg t) (h : EvC X.K t vs w δ μ P) : WC X tg vs w δ μ P := fun G H A σ v c s r Q l pins s' u I ru => hp.run pins s' σ H v u Q I ru (h G H A σ v c s r Q l)
theorem GX.pgL (G : GX X sc N) {i : Nat} {x : Str} {pos : Pos} (hi : N[i]? = some x) (hx : sc.names.lookup x = some .local) : PG X (.Name x pos) (gName i) :=
  pg_name G.ndX (by rw [G.n]; exact hi) (by rw [G.esc]; exact .inl hx) (.inr (by rw [G.esc]; exact hx))
theorem c_name (G : GX X sc N) (i : Nat) {x : Str} (h : P (δ.set i (some w)) μ) (hN : N[i]? = some x := by rfl) (hv : sc.names.lookup x = some .local := by rfl) (hi : i ∈ vs := by decide) : WC X (.Name x pos) vs w δ μ P := .of (G.pgL hN hv) (ec_name hi h)
theorem c_tup2 (G : GX X sc N) (i j : Nat) {x y : Str} {px py : Pos} {kk : Nat} {d d1 d2 : D} (ht : TupD d [d1, d2]) (h : P ((δ.set i (some (.val d1))).set j (some (.val d2))) μ) (hi : N[i]? = some x := by rfl) (hj : N[j]? = some y := by rfl) (hx : sc.names.lookup x = some .local := by rfl) (hy : sc.names.lookup y = some .local := by rfl)
    (mi : i ∈ vs := by decide) (mj : j ∈ vs := by decide) : WC X (.Tuple [.Name x px, .Name y py] kk pos) vs (.val d) δ μ P :=
  .of (pg_tup G.calm (pgs_cons (G.pgL hi hx) (pgs_cons (G.pgL hj hy) pgs_nil))) (ec_tup ht rfl (ecs_cons (ec_name mi (ecs_cons (ec_name mj (ecs_nil h))))))
theorem c_tup3 (G : GX X sc N) (i j k : Nat) {x y z : Str} {px py pz : Pos} {kk : Nat} {d d1 d2 d3 : D} (ht : TupD d [d1, d2, d3]) (h : P (((δ.set i (some (.val d1))).set j (some (.val d2))).set k (some (.val d3))) μ) (hi : N[i]? = some x := by rfl) (hj : N[j]? = some y := by rfl) (hk : N[k]? = some z := by rfl)
    (hx : sc.names.lookup x = some .local := by rfl) (hy : sc.names.lookup y = some .local := by rfl) (hz : sc.names.lookup z = some .local := by rfl) (mi : i ∈ vs := by decide) (mj : j ∈ vs := by decide) (mk : k ∈ vs := by decide) : WC X (.Tuple [.Name x px, .Name y py, .Name z pz] kk pos) vs (.val d) δ μ P :=
  .of (pg_tup G.calm (pgs_cons (G.pgL hi hx) (pgs_cons (G.pgL hj hy) (pgs_cons (G.pgL hk hz) pgs_nil)))) (ec_tup ht rfl (ecs_cons (ec_name mi (ecs_cons (ec_name mj (ecs_cons (ec_name mk (ecs_nil h))))))))
theorem c_tup4 (G : GX X sc N) (i j k l : Nat) {x y z u : Str} {px py pz pu : Pos} {kk : Nat} {d d1 d2 d3 d4 : D} (ht : TupD d [d1, d2, d3, d4]) (h : P ((((δ.set i (some (.val d1))).set j (some (.val d2))).set k (some (.val d3))).set l (some (.val d4))) μ) (hi : N[i]? = some x := by rfl) (hj : N[j]? = some y := by rfl) (hk : N[k]? = some z := by rfl) (hl : N[l]? = some u := by rfl)
    (hx : sc.names.lookup x = some .local := by rfl) (hy : sc.names.lookup y = some .local := by rfl) (hz : sc.names.lookup z = some .local := by rfl) (hu : sc.names.lookup u = some .local := by rfl) (mi : i ∈ vs := by decide) (mj : j ∈ vs := by decide) (mk : k ∈ vs := by decide) (ml : l ∈ vs := by decide) : WC X (.Tuple [.Name x px, .Name y py, .Name z pz, .Name u pu] kk pos) vs (.val d) δ μ P :=
  .of (pg_tup G.calm (pgs_cons (G.pgL hi hx) (pgs_cons (G.pgL hj hy) (pgs_cons (G.pgL hk hz) (pgs_cons (G.pgL hl hu) pgs_nil))))) (ec_tup ht rfl (ecs_cons (ec_name mi (ecs_cons (ec_name mj (ecs_cons (ec_name mk (ecs_cons (ec_name ml (ecs_nil h))))))))))
end

/-! ### [elt for tg in iter if ..] -/
section
variable (X : Cx) (scope : Scope) (vs : List Nat)
def bG (tg : Expr) : TG := fun v σ H Q => ∀ b : Bk, wG (bkX X scope b) tg v σ H Q
def bT (ifs : List Expr) : TT := fun σ H Q => ∀ b : Bk, wTs (bkX X scope b) ifs σ H Q
def bE (e : Expr) : TE := fun σ H Q => ∀ b : Bk, wE (bkX X scope b) e σ H Q
/-- a turn -/
def Turn1 (tg : Expr) (ifs : List Expr) (elt : Expr) (d : D) (δ : DS) (μ : List M) (RT : W → List M → Prop) (RF : List M → Prop) : Prop :=
  ∀ b, WC (bkX X scope b) tg vs (.val d) (wipeD δ vs) μ fun δ2 μ2 => ∀ b, WTs (bkX X scope b) ifs δ2 μ2 fun k μ3 => (k = true → ∀ b, WE (bkX X scope b) elt δ2 μ3 RT) ∧ (k = false → RF μ3)
/-- what a comprehension is to do -/
def LcH (o : Bool) (elt tg iter : Expr) (ifs : List Expr) (δ : DS) (μ : List M) (R : W → List M → Prop) : Prop :=
  WI X tg iter δ μ fun xs keep μ1 => xs.length ≤ 40000 ∧ ∃ P : Nat → List D → List M → Prop, P 0 [] μ1 ∧ (∀ i acc μ', i ≤ xs.length → P i acc μ' → keep μ') ∧
    (∀ (i : Nat) (d : D) acc μ', xs[i]? = some d → acc.length ≤ i → P i acc μ' → Turn1 X scope vs tg ifs elt d δ μ' (fun w μ4 => ∃ d, w = .val d ∧ P (i + 1) (acc ++ [d]) μ4) (fun μ3 => P (i + 1) acc μ3)) ∧
    ∀ acc μ', P xs.length acc μ' → mkL o R acc μ'
end
section
variable {X : Cx} {sc : Scope} {N : List Str} {δ : DS} {μ : List M} {R : W → List M → Prop} {elt tg iter : Expr} {ifs : List Expr} {scope : Scope} {pos p : Pos} {o : Bool}
theorem bG_ev {vs : List Nat} {w : W} {P : DS → List M → Prop} (h : ∀ b, WC (bkX X scope b) tg vs w δ μ P) : EvC X.K (bG X scope tg) vs w δ μ P := fun G H A σ v c s r Q l b => h b G H A σ v c s r Q l
theorem bT_ev {RB : Bool → List M → Prop} (h : ∀ b, WTs (bkX X scope b) ifs δ μ RB) : EvT X.K (bT X scope ifs) δ μ RB := fun G H A σ c s Q l b => h b G H A σ c s Q l
theorem bE_ev (h : ∀ b, WE (bkX X scope b) elt δ μ R) : EvE X.K (bE X scope elt) δ μ R := fun G H A σ c s Q l b => h b G H A σ c s Q l
theorem EvT.mono {K : PySem.W.Frag} {t : TT} {R R' : Bool → List M → Prop} (h : EvT K t δ μ R) (hr : ∀ w μ', R w μ' → R' w μ') : EvT K t δ μ R' := fun G H A σ c s Q l => h G H A σ c s Q fun v G' H' A' μ' st c' q => l v G' H' A' μ' st c' (hr v μ' q)
theorem EvC.mono {K : PySem.W.Frag} {t : TG} {vs : List Nat} {w : W} {R R' : DS → List M → Prop} (h : EvC K t vs w δ μ R) (hr : ∀ w μ', R w μ' → R' w μ') : EvC K t vs w δ μ R' := fun G H A σ v c s r Q l => h G H A σ v c s r Q fun σ' δ' G' H' A' μ' e st c' s' q => l σ' δ' G' H' A' μ' e st c' s' (hr _ _ q)
theorem EvI.mono {K : PySem.W.Frag} {t : TI} {R R' : List D → (List M → Prop) → List M → Prop} (h : EvI K t δ μ R) (hr : ∀ xs k μ', R xs k μ' → R' xs k μ') : EvI K t δ μ R' := fun G H A σ c s Q l => h G H A σ c s Q fun J xs k G' H' A' μ' st c' i q => l J xs k G' H' A' μ' st c' i (hr _ _ _ q)
theorem turn_ev {vs : List Nat} {d : D} {RT : W → List M → Prop} {RF : List M → Prop} (h : Turn1 X scope vs tg ifs elt d δ μ RT RF) :
    EvC X.K (bG X scope tg) vs (.val d) (wipeD δ vs) μ fun δ2 μ2 => EvT X.K (bT X scope ifs) δ2 μ2 fun b μ3 => (b = true → EvE X.K (bE X scope elt) δ2 μ3 RT) ∧ (b = false → RF μ3) :=
  (bG_ev h).mono fun _ _ h => (bT_ev h).mono fun _ _ h => ⟨fun k => bE_ev (h.1 k), h.2⟩
theorem lc_ev {own : List (Str × Nat)} (h : LcH X scope (own.map (·.2)) o elt tg iter ifs δ μ R) : EvE X.K (tLc (wI X tg iter) (bG X scope tg) (bT X scope ifs) (bE X scope elt) (own.map (·.2))) δ μ R :=
  ev_lc o (EvI.mono h fun xs k μ1 ⟨z, P, p0, pk, pt, pd⟩ => ⟨z, P, p0, pk, fun i d acc μ' hd ha hP => turn_ev (pt i d acc μ' hd ha hP), pd⟩)
theorem x_lc (G : GX X sc N) (own : List (Str × Nat)) (h : LcH X scope (own.map (·.2)) o elt tg iter ifs δ μ R) (ok : blkC N sc scope own = true := by decide +kernel) (hs : ∀ x, foldedSetIterable iter X.env x = pure x := by intro _; rfl) : WE X (.ListComp elt [⟨tg, iter, ifs, 0⟩] scope pos) δ μ R :=
  .of (pe_lc G.calm G.ndX pi_w (by rw [G.n, G.esc]; exact blkOk_by ok) (fun s H C cl fp => ⟨fun pins s' σ H v u Q I r h => h ⟨_, _, _, _, _⟩ pins s' u I r⟩) (fun s H C cl fp => ⟨fun pins s' σ H Q I h => h ⟨_, _, _, _, _⟩ pins s' I⟩) (fun s H C cl fp => ⟨fun pins s' σ H Q I h => h ⟨_, _, _, _, _⟩ pins s' I⟩) hs) (lc_ev h)
/-- name = [..] -/
theorem s_setLc {D : DE} (G : GX X sc N) (own : List (Str × Nat)) (i : Nat) {y : Str} {py spos : Pos} (h : LcH X scope (own.map (·.2)) o elt tg iter ifs δ μ fun w μ1 => D.nx (δ.set i (some w)) μ1) (ok : blkC N sc scope own = true := by decide +kernel) (hN : N[i]? = some y := by rfl) (hy : sc.names.lookup y = some .local := by rfl)
    (hl : (py.line == pos.line) = true := by rfl) (ha : (scope.names.any fun (n, k) => n == y && (k == .local || k == .cell)) = false := by rfl) (hs : ∀ x, foldedSetIterable iter X.env x = pure x := by intro _; rfl) : WS X (.Assign [.Name y py] (.ListComp elt [⟨tg, iter, ifs, 0⟩] scope pos) spos) δ μ D :=
  .of (ps_setLc G.calm G.ndX (by rw [G.n]; exact hN) (by rw [G.esc]; exact hy) (sw_true (by rw [G.esc]; exact G.kind) (by rw [G.esc]; exact hy) hl ha) pi_w (by rw [G.n, G.esc]; exact blkOk_by ok) (fun s H C cl fp => ⟨fun pins s' σ H v u Q I r h => h ⟨_, _, _, _, _⟩ pins s' u I r⟩) (fun s H C cl fp => ⟨fun pins s' σ H Q I h => h ⟨_, _, _, _, _⟩ pins s' I⟩) (fun s H C cl fp => ⟨fun pins s' σ H Q I h => h ⟨_, _, _, _, _⟩ pins s' I⟩) hs)
    (es_asg (EvE.mono (lc_ev h) fun _ _ h => eg_name h))
/-- name = [..], captured by a block's text nowhere, the name a cell: not needed -/
theorem getElem?_take_succ {α : Type} {xs : List α} {i : Nat} {d : α} (h : xs[i]? = some d) : xs.take (i + 1) = xs.take i ++ [d] := by
  rw [List.take_add_one, h]
  rfl
/-- each gives at most one, nothing else changes -/
theorem lc_flt {vs : List Nat} (f : D → Option D) (h : WI X tg iter δ μ fun xs keep μ1 => xs.length ≤ 40000 ∧ keep μ1 ∧ (∀ (i : Nat) (d : D), xs[i]? = some d → Turn1 X scope vs tg ifs elt d δ μ1 (fun w μ4 => ∃ d', w = .val d' ∧ f d = some d' ∧ μ4 = μ1) (fun μ3 => f d = none ∧ μ3 = μ1)) ∧ mkL o R (xs.filterMap f) μ1) : LcH X scope vs o elt tg iter ifs δ μ R :=
  EvI.mono h fun xs keep μ1 ⟨hz, hk, ht, he⟩ => ⟨hz, fun i acc μ' => μ' = μ1 ∧ acc = (xs.take i).filterMap f, ⟨rfl, by simp⟩, fun i acc μ' _ ⟨e, _⟩ => by rw [e]; exact hk, fun i d acc μ' hd _ ⟨e1, e2⟩ => by
    subst e1
    refine fun b => (EvC.mono (ht i d hd b) fun δ2 μ2 h b => EvT.mono (h b) fun k μ3 h => ⟨fun hk b => EvE.mono (h.1 hk b) fun w μ4 ⟨d', e, e3, e4⟩ => ⟨d', e, e4, ?_⟩, fun hk => ⟨(h.2 hk).2, ?_⟩⟩)
    · rw [e2, getElem?_take_succ hd, List.filterMap_append]
      simp [e3]
    · rw [e2, getElem?_take_succ hd, List.filterMap_append]
      simp [(h.2 hk).1], fun acc μ' ⟨e1, e2⟩ => by
    subst e1
    rw [e2, List.take_length]
    exact he⟩
/-- each gives one -/
theorem lc_map {vs : List Nat} (f : D → D) (h : WI X tg iter δ μ fun xs keep μ1 => xs.length ≤ 40000 ∧ keep μ1 ∧ (∀ (i : Nat) (d : D), xs[i]? = some d → ∀ b, WC (bkX X scope b) tg vs (.val d) (wipeD δ vs) μ1 fun δ2 μ2 => ∀ b, WE (bkX X scope b) elt δ2 μ2 fun w μ4 => w = .val (f d) ∧ μ4 = μ1) ∧ mkL o R (xs.map f) μ1) : LcH X scope vs o elt tg iter [] δ μ R :=
  lc_flt (fun d => some (f d)) (EvI.mono h fun xs keep μ1 ⟨hz, hk, ht, he⟩ => ⟨hz, hk, fun i d hd b => EvC.mono (ht i d hd b) fun δ2 μ2 h b => ts_nil ⟨fun _ b => EvE.mono (h b) fun w μ4 ⟨e1, e2⟩ => ⟨_, e1, rfl, e2⟩, fun k => nomatch k⟩, by
    rw [show xs.filterMap (fun d => some (f d)) = xs.map f by rw [List.filterMap_eq_map' ]]
    exact he⟩)
end
end DL
set_option Elab.async false
set_option linter.all false
set_option maxRecDepth 100000
set_option maxHeartbeats 2000000
/-! DL8: dicts. -/
namespace DL
open PySem PySem.Spec PyProof.Rows L2
open Evl (Ex)
section
variable {κ β : Type} [DecidableEq κ]
def kget : List (κ × β) → κ → Option β
  | [], _ => none
  | p :: r, k => if p.1 = k then some p.2 else kget r k
def khas (ds : List (κ × β)) (k : κ) : Bool := (kget ds k).isSome
def kset : List (κ × β) → κ → β → List (κ × β)
  | [], _, _ => []
  | p :: r, k, v => (if p.1 = k then (p.1, v) else p) :: kset r k v
def kput (ds : List (κ × β)) (k : κ) (v : β) : List (κ × β) := if khas ds k = true then kset ds k v else ds ++ [(k, v)]
def kputs (ds more : List (κ × β)) : List (κ × β) := more.foldl (fun a p => kput a p.1 p.2) ds
end
inductive RepP {κ : Type} (K : PySem.W.Frag) (G : Hp) : List (κ × V) → List (κ × D) → Prop
  | nil : RepP K G [] []
  | cons {k : κ} {v : V} {d : D} {vs : List (κ × V)} {ds : List (κ × D)} : Rep K G v d → RepP K G vs ds → RepP K G ((k, v) :: vs) ((k, d) :: ds)
section
variable {K : PySem.W.Frag} {G : Hp}
theorem RepK.p : ∀ {vs : List (Key × V)} {ds : List (Key × D)}, RepK K G vs ds → RepP K G vs ds
  | _, _, .nil => .nil
  | _, _, .cons a b => .cons a b.p
theorem RepT.p : ∀ {vs : List (List Key × V)} {ds : List (List Key × D)}, RepT K G vs ds → RepP K G vs ds
  | _, _, .nil => .nil
  | _, _, .cons a b => .cons a b.p
theorem RepP.k : ∀ {vs : List (Key × V)} {ds : List (Key × D)}, RepP K G vs ds → RepK K G vs ds
  | _, _, .nil => .nil
  | _, _, .cons a b => .cons a b.k
theorem RepP.t : ∀ {vs : List (List Key × V)} {ds : List (List Key × D)}, RepP K G vs ds → RepT K G vs ds
  | _, _, .nil => .nil
  | _, _, .cons a b => .cons a b.t
section
variable {κ : Type} [DecidableEq κ] {vs : List (κ × V)} {ds : List (κ × D)}
theorem RepP.get (r : RepP K G vs ds) (k : κ) : (kget ds k = none ∧ valV vs k = none) ∨ ∃ d v, kget ds k = some d ∧ valV vs k = some v ∧ Rep K G v d := by
  induction r with
  | nil => exact .inl ⟨rfl, rfl⟩
  | @cons k' v d vs ds a b ih =>
    by_cases e : k' = k
    · exact .inr ⟨d, v, by simp [kget, e], valV_pos e, a⟩
    · rw [valV_neg (p := (k', v)) e]
      rw [show kget ((k', d) :: ds) k = kget ds k by simp [kget, e]]
      exact ih
theorem RepP.kset (r : RepP K G vs ds) (k : κ) {v : V} {d : D} (rv : Rep K G v d) : RepP K G (vs.map fun kv => if kv.1 = k then (kv.1, v) else kv) (kset ds k d) := by
  induction r with
  | nil => exact .nil
  | @cons k' v' d' vs ds a b ih =>
    rw [List.map_cons]
    show RepP K G _ ((if k' = k then (k', d) else (k', d')) :: DL.kset ds k d)
    by_cases e : k' = k
    · rw [if_pos e, if_pos e]; exact .cons rv ih
    · rw [if_neg e, if_neg e]; exact .cons a ih
theorem RepP.app (r : RepP K G vs ds) {us : List (κ × V)} {es : List (κ × D)} (r2 : RepP K G us es) : RepP K G (vs ++ us) (ds ++ es) := by
  induction r with
  | nil => exact r2
  | cons a b ih => exact .cons a ih
theorem RepP.put (r : RepP K G vs ds) (k : κ) {v : V} {d : D} (rv : Rep K G v d) : RepP K G (putK vs k v) (kput ds k d) := by
  unfold putK kput khas
  rw [valV_any]
  rcases r.get k with ⟨h1, h2⟩ | ⟨d', v', h1, h2, _⟩
  · rw [h1, h2]
    exact r.app (.cons rv .nil)
  · rw [h1, h2]
    exact r.kset k rv
end
theorem kset_length {κ β : Type} [DecidableEq κ] (k : κ) (v : β) : ∀ ds : List (κ × β), (kset ds k v).length = ds.length
  | [] => rfl
  | p :: r => by
    show (kset r k v).length + 1 = r.length + 1
    rw [kset_length k v r]
theorem kput_length {κ β : Type} [DecidableEq κ] (ds : List (κ × β)) (k : κ) (v : β) : (kput ds k v).length ≤ ds.length + 1 := by
  unfold kput
  split
  · rw [kset_length]; omega
  · simp
theorem RepP.merge : ∀ {more : List (Key × V)} {ms : List (Key × D)} {kvs : List (Key × V)} {ds : List (Key × D)}, RepP K G more ms → RepP K G kvs ds → RepP K G (mergeK kvs more) (kputs ds ms) := by
  intro more ms kvs ds r
  induction r generalizing kvs ds with
  | nil => intro q; exact q
  | @cons k v d vs ds' a b ih => intro q; exact ih (q.put k a)
end
/-- the key that a datum makes -/
def keyD : D → Option Key
  | .int i => some (.inl i)
  | .str x => some (.inr x)
  | _ => none
def dK (k : Key) : D := match k with
  | .inl i => .int i
  | .inr x => .str x
theorem rep_key {K : PySem.W.Frag} {G : Hp} {v : V} {k : Key} (r : Rep K G v (dK k)) : v = kV k := by
  cases k <;> (cases r; rfl)
theorem rep_keyR {K : PySem.W.Frag} {G : Hp} (k : Key) : Rep K G (kV k) (dK k) := by
  cases k
  · exact .int _
  · exact .str _
theorem reps_keys {K : PySem.W.Frag} {G : Hp} : ∀ {vs : List V} {ks : List Key}, Reps K G vs (ks.map dK) → vs = ks.map kV
  | _, [], .nil => rfl
  | _, k :: ks, .cons a b => by rw [rep_key a, reps_keys b]; rfl
/-- d[k] of the dict w by the key y -/
inductive LookW (μ : List M) : W → W → Option D → Prop
  | k {w : W} {ds : List (Key × D)} {k : Key} (h : DicW μ w ds) : LookW μ w (.val (dK k)) (kget ds k)
  | t {ds : List (List Key × D)} {ks : List Key} : LookW μ (.val (.dT ds)) (.val (.tup (ks.map dK))) (kget ds ks)
section
variable {K : PySem.W.Frag} {G H : Hp} {A : List Addr} {μ : List M}
theorem LookW.at_ {w wy : W} {o : Option D} {x y : V} (l : LookW μ w wy o) (c : Con K G H A μ) (r : RepW K G A x w) (ry : RepW K G A y wy) : ∃ a ov, x = .ref a ∧ DGet H a y ov ∧ IsD H a ∧ ((o = none ∧ ov = none) ∨ ∃ d v, o = some d ∧ ov = some v ∧ Rep K G v d) := by
  cases l with
  | @k w ds k h =>
    obtain ⟨a, vs, rfl, h1, h2⟩ := h.at_ c r
    obtain rfl := rep_key ry
    exact ⟨a, _, rfl, .inl ⟨vs, k, .inl h1, rfl, rfl⟩, .inl ⟨vs, .inl h1⟩, h2.p.get k⟩
  | @t ds ks =>
    cases r with
    | dT h1 h2 =>
      cases ry with
      | tup q1 q2 =>
        obtain rfl := reps_keys q2
        exact ⟨_, _, rfl, .inr ⟨_, ks, _, .inl (c.gh _ _ h1), rfl, c.gh _ _ q1, rfl⟩, .inr ⟨_, .inl (c.gh _ _ h1)⟩, h2.p.get ks⟩
end
section
variable {X : Cx} {sc : Scope} {N : List Str} {δ : DS} {μ : List M} {R : W → List M → Prop} {RB : Bool → List M → Prop} {a b e f : Expr} {pos p apos cpos : Pos} {k : Nat}
theorem Room.u1 {k : Nat} {A : Around} (hr : Room k A) : A.units + 1 < cLine := by have := hr.units; omega
theorem NoSl.rfl_ (h : ∀ ov iv, subscripted a false ov iv = operate [ov, iv] (getItem ov iv)) : NoSl a := h
/-- d[k], there -/
theorem x_dget (hr : Room k X.A) (h : WE X a δ μ fun w μ1 => WE X b δ μ1 fun wy μ2 => ∃ d, LookW μ2 w wy (some d) ∧ R (.val d) μ2) (hs : ∀ ov iv, subscripted b false ov iv = operate [ov, iv] (getItem ov iv) := by intro _ _; rfl) : WE X (.Subscript a b pos) δ μ R :=
  .of (pe_dget (Room.u1 hr) pe_w pe_w hs) fun G H A σ c s Q l => h G H A σ c s _ fun v w G1 H1 A1 μ1 s1 c1 r1 h1 => h1 G1 H1 A1 σ c1 (s.step s1) _ fun y wy G2 H2 A2 μ2 s2 c2 r2 ⟨d, lk, h2⟩ => by
    obtain ⟨p, ov, rfl, g, _, q⟩ := lk.at_ c2 (r1.step s2) r2
    rcases q with ⟨e, _⟩ | ⟨d', v', e, rfl, rd⟩
    · cases e
    · cases e
      exact ⟨p, v', rfl, g, ((l.step c1 s1).step c2 s2).now (w := .val d) c2 rd h2⟩
/-- k in d -/
theorem x_din (hr : Room k X.A) (h : WE X a δ μ fun wy μ1 => WE X b δ μ1 fun w μ2 => ∃ o, LookW μ2 w wy o ∧ R (.val (.bl o.isSome)) μ2) (hm : behindInMarks .In b = false := by rfl) : WE X (.Compare a [.In] [b] pos) δ μ R :=
  .of (pe_cmp (pc_din (Room.u1 hr) pe_w pe_w) hm) fun G H A σ c s Q l => h G H A σ c s _ fun y wy G1 H1 A1 μ1 s1 c1 r1 h1 => h1 G1 H1 A1 σ c1 (s.step s1) _ fun v w G2 H2 A2 μ2 s2 c2 r2 ⟨o, lk, h2⟩ => by
    obtain ⟨p, ov, rfl, g, _, q⟩ := lk.at_ c2 r2 (r1.step s2)
    refine ⟨p, ov, rfl, g, ((l.step c1 s1).step c2 s2).now (w := .val (.bl o.isSome)) c2 ?_ h2⟩
    rcases q with ⟨rfl, rfl⟩ | ⟨d', v', rfl, rfl, rd⟩ <;> exact Rep.bl _
theorem x_dnotin (hr : Room k X.A) (h : WE X a δ μ fun wy μ1 => WE X b δ μ1 fun w μ2 => ∃ o, LookW μ2 w wy o ∧ R (.val (.bl (!o.isSome))) μ2) (hm : behindInMarks .NotIn b = false := by rfl) : WE X (.Compare a [.NotIn] [b] pos) δ μ R :=
  .of (pe_cmp (pc_dnotin (Room.u1 hr) pe_w pe_w) hm) fun G H A σ c s Q l => h G H A σ c s _ fun y wy G1 H1 A1 μ1 s1 c1 r1 h1 => h1 G1 H1 A1 σ c1 (s.step s1) _ fun v w G2 H2 A2 μ2 s2 c2 r2 ⟨o, lk, h2⟩ => by
    obtain ⟨p, ov, rfl, g, _, q⟩ := lk.at_ c2 r2 (r1.step s2)
    refine ⟨p, ov, rfl, g, ((l.step c1 s1).step c2 s2).now (w := .val (.bl (!o.isSome))) c2 ?_ h2⟩
    rcases q with ⟨rfl, rfl⟩ | ⟨d', v', rfl, rfl, rd⟩ <;> exact Rep.bl _
theorem t_din (hr : Room k X.A) (h : WE X a δ μ fun wy μ1 => WE X b δ μ1 fun w μ2 => ∃ o, LookW μ2 w wy o ∧ RB o.isSome μ2) (hm : behindInMarks .In b = false := by rfl) : WT X (.Compare a [.In] [b] pos) δ μ RB :=
  .of (pt_cmp (pc_din (Room.u1 hr) pe_w pe_w) hm) (et_B fun G H A σ c s Q l => h G H A σ c s _ fun y wy G1 H1 A1 μ1 s1 c1 r1 h1 => h1 G1 H1 A1 σ c1 (s.step s1) _ fun v w G2 H2 A2 μ2 s2 c2 r2 ⟨o, lk, h2⟩ => by
    obtain ⟨p, ov, rfl, g, _, q⟩ := lk.at_ c2 r2 (r1.step s2)
    refine ⟨p, ov, rfl, g, ((l.step c1 s1).step c2 s2).now (w := .val (.bl o.isSome)) c2 ?_ ⟨_, rfl, h2⟩⟩
    rcases q with ⟨rfl, rfl⟩ | ⟨d', v', rfl, rfl, rd⟩ <;> exact Rep.bl _)
theorem t_dnotin (hr : Room k X.A) (h : WE X a δ μ fun wy μ1 => WE X b δ μ1 fun w μ2 => ∃ o, LookW μ2 w wy o ∧ RB (!o.isSome) μ2) (hm : behindInMarks .NotIn b = false := by rfl) : WT X (.Compare a [.NotIn] [b] pos) δ μ RB :=
  .of (pt_cmp (pc_dnotin (Room.u1 hr) pe_w pe_w) hm) (et_B fun G H A σ c s Q l => h G H A σ c s _ fun y wy G1 H1 A1 μ1 s1 c1 r1 h1 => h1 G1 H1 A1 σ c1 (s.step s1) _ fun v w G2 H2 A2 μ2 s2 c2 r2 ⟨o, lk, h2⟩ => by
    obtain ⟨p, ov, rfl, g, _, q⟩ := lk.at_ c2 r2 (r1.step s2)
    refine ⟨p, ov, rfl, g, ((l.step c1 s1).step c2 s2).now (w := .val (.bl (!o.isSome))) c2 ?_ ⟨_, rfl, h2⟩⟩
    rcases q with ⟨rfl, rfl⟩ | ⟨d', v', rfl, rfl, rd⟩ <;> exact Rep.bl _)
/-- a dict, whatever its keys -/
inductive AnyD (μ : List M) : W → Prop
  | k {w : W} {ds : List (Key × D)} (h : DicW μ w ds) : AnyD μ w
  | t {ds : List (List Key × D)} : AnyD μ (.val (.dT ds))
theorem AnyD.at_ {K : PySem.W.Frag} {G H : Hp} {A : List Addr} {w : W} {x : V} (l : AnyD μ w) (c : Con K G H A μ) (r : RepW K G A x w) : ∃ a, x = .ref a ∧ IsD H a := by
  cases l with
  | k h => obtain ⟨a, vs, rfl, h1, h2⟩ := h.at_ c r; exact ⟨a, rfl, .inl ⟨vs, .inl h1⟩⟩
  | t => cases r with | dT h1 h2 => exact ⟨_, rfl, .inr ⟨_, .inl (c.gh _ _ h1)⟩⟩
/-- d.get(k) -/
theorem x_get1 (hr : Room k X.A) (h : WE X a δ μ fun w μ1 => AnyD μ1 w ∧ WE X e δ μ1 fun wy μ2 => ∃ o, LookW μ2 w wy o ∧ R (.val (o.getD .non)) μ2) (m : M1 X a "get" apos e cpos := by exact ⟨rfl, rfl, rfl, rfl⟩) : WE X (.Call (.Attribute a "get" apos) [e] [] cpos) δ μ R :=
  .of (pe_dget1 (Room.u1 hr) pe_w pe_w m) fun G H A σ c s Q l => h G H A σ c s _ fun v w G1 H1 A1 μ1 s1 c1 r1 ⟨ad, h1⟩ => by
    obtain ⟨p, rfl, hd⟩ := ad.at_ c1 r1
    refine ⟨p, rfl, hd, h1 G1 H1 A1 σ c1 (s.step s1) _ fun y wy G2 H2 A2 μ2 s2 c2 r2 ⟨o, lk, h2⟩ => ?_⟩
    obtain ⟨p', ov, e, g, _, q⟩ := lk.at_ c2 (r1.step s2) r2
    cases e
    refine ⟨ov, g, ((l.step c1 s1).step c2 s2).now (w := .val (o.getD .non)) c2 ?_ h2⟩
    rcases q with ⟨rfl, rfl⟩ | ⟨d', v', rfl, rfl, rd⟩
    · exact Rep.non
    · exact rd
/-- d.get(k, x) -/
theorem x_get2 (hr : Room k X.A) (h : WE X a δ μ fun w μ1 => AnyD μ1 w ∧ WE X e δ μ1 fun wy μ2 => WE X f δ μ2 fun wz μ3 => ∃ o z, wz = .val z ∧ LookW μ3 w wy o ∧ R (.val (o.getD z)) μ3) (m : M2 X a "get" apos e f cpos := by exact ⟨rfl, rfl, rfl, rfl⟩) : WE X (.Call (.Attribute a "get" apos) [e, f] [] cpos) δ μ R :=
  .of (pe_dget2 (Room.u1 hr) pe_w pe_w pe_w m) fun G H A σ c s Q l => h G H A σ c s _ fun v w G1 H1 A1 μ1 s1 c1 r1 ⟨ad, h1⟩ => by
    obtain ⟨p, rfl, hd⟩ := ad.at_ c1 r1
    refine ⟨p, rfl, hd, h1 G1 H1 A1 σ c1 (s.step s1) _ fun y wy G2 H2 A2 μ2 s2 c2 r2 h2 => h2 G2 H2 A2 σ c2 ((s.step s1).step s2) _ fun z wz G3 H3 A3 μ3 s3 c3 r3 ⟨o, zd, e, lk, h3⟩ => ?_⟩
    subst e
    obtain ⟨p', ov, e, g, _, q⟩ := lk.at_ c3 ((r1.step s2).step s3) (r2.step s3)
    cases e
    refine ⟨ov, g, (((l.step c1 s1).step c2 s2).step c3 s3).now (w := .val (o.getD zd)) c3 ?_ h3⟩
    rcases q with ⟨rfl, rfl⟩ | ⟨d', v', rfl, rfl, rd⟩
    · exact r3
    · exact rd
/-- d[k] = v of an owned dict -/
theorem s_dput {D : DE} {v : Expr} {ps ps' : Pos} (hr : Room k X.A) (h : WE X v δ μ fun wv μ1 => WE X a δ μ1 fun w μ2 => WE X b δ μ2 fun wy μ3 => ∃ j ds k d, w = .own j ∧ μ3[j]? = some (.mK ds) ∧ wy = .val (dK k) ∧ wv = .val d ∧ ds.length ≤ 40000 ∧ D.nx δ (μ3.set j (.mK (kput ds k d))))
    (hs : swapsWith v (some (.Subscript a b ps')) ps.line X.env = pure false := by rfl) : WS X (.Assign [.Subscript a b ps'] v ps) δ μ D :=
  .of (ps_dput (Room.u1 hr) pe_w pe_w pe_w hs) fun G H A σ c s E l => h G H A σ c s _ fun x wv G1 H1 A1 μ1 s1 c1 r1 h1 => h1 G1 H1 A1 σ c1 (s.step s1) _ fun y w G2 H2 A2 μ2 s2 c2 r2 h2 => h2 G2 H2 A2 σ c2 ((s.step s1).step s2) _ fun z wy G3 H3 A3 μ3 s3 c3 r3 ⟨j, ds, k, d, e1, hm, e2, e3, hz, h3⟩ => by
    subst e1 e2 e3
    obtain ⟨q, vs, rfl, hA, hH, hR⟩ := c3.ownK hm (r2.step s3)
    obtain rfl := rep_key r3
    obtain ⟨c4, s4⟩ := c3.put hA (m := .mK (kput ds k d)) ⟨_, rfl, (hR.p.put k (((show Rep X.K G1 x d from r1).mono s2.g).mono s3.g)).k⟩
    refine ⟨q, _, rfl, .inl ⟨vs, k, hH, rfl, Evl.sz_lt (by rw [hR.length]; omega), rfl⟩, ((((l.step c1 s1).step c2 s2).step c3 s3).step c4 s4).nx.now c4 ((((s.step s1).step s2).step s3).step s4) h3⟩
/-- {} -/
theorem x_dT0 (h : R (.val (.dT [])) μ) : WE X (.Dict [] [] pos) δ μ R := .of pe_dnewT fun G H A σ c s Q l p hp => by
  obtain ⟨c1, s1⟩ := c.newG hp (.dT [])
  exact l _ (.val (.dT [])) _ _ _ _ s1 c1 (.dT upd_same .nil) h
/-- {k: v}, owned -/
theorem x_disp1 {ek ev : Expr} (h : WE X ek δ μ fun wk μ1 => WE X ev δ μ1 fun wv μ2 => ∃ k d, wk = .val (dK k) ∧ wv = .val d ∧ R (.own μ2.length) (μ2 ++ [.mK [(k, d)]])) : WE X (.Dict [some ek] [ev] pos) δ μ R :=
  .of (pe_disp (pps_cons pe_w pe_w pps_nil) rfl rfl (by simp) (by show 1 ≤ 15; decide)) fun G H A σ c s Q l p hp => by
    obtain ⟨g0, a0⟩ := c.fresh hp
    have c0 := c.hid g0 a0 (.dK [])
    refine h G _ A σ c0 s _ fun x wk G1 H1 A1 μ1 s1 c1 r1 h1 => h1 G1 H1 A1 σ c1 (s.step s1) _ fun y wv G2 H2 A2 μ2 s2 c2 r2 ⟨k, d, e1, e2, h2⟩ => ?_
    subst e1 e2
    have st := s1.trans c1 s2
    obtain ⟨q1, q2, q3⟩ := st.hidden (p := p) upd_same g0 a0
    obtain rfl := rep_key r1
    refine ⟨q1, [(k, y)], rfl, by show 1 ≤ 15; decide, ?_⟩
    obtain ⟨t, e, ht⟩ := st.a
    have c3 := c2.hid q2 q3 (.dK (mergeK [] [(k, y)]))
    refine l _ (.own μ2.length) G2 _ (A2 ++ [p]) (μ2 ++ [.mK [(k, d)]]) ⟨st.g, fun z o hz hA => ?_, ⟨t ++ [p], by rw [e, List.append_assoc], fun z hz => ?_⟩, fun z o hz => ?_⟩ ⟨fun z o hz => ?_, by simp [c2.len], fun j z m e1 e2 => ?_, List.nodup_append.mpr ⟨c2.nd, by simp, fun z hz u hu w => q3 (by rw [List.mem_singleton.mp hu] at w; rw [← w]; exact hz)⟩, fun z hz => ?_⟩ ⟨p, by rw [← c2.len]; simp, rfl⟩ h2
    · have n : z ≠ p := ne_of_none hz hp
      rw [upd_ne n]
      exact st.h z o (by rw [upd_ne n]; exact hz) hA
    · rcases List.mem_append.mp hz with w | w
      · have := ht z w
        by_cases n : z = p
        · rw [n]; exact hp
        · rw [upd_ne n] at this; exact this
      · rw [List.mem_singleton.mp w]; exact hp
    · rcases st.f z o hz with w | w
      · exact .inl w
      · by_cases n : z = p
        · rw [n]; exact .inr hp
        · rw [upd_ne n] at w; exact .inr w
    · exact c3.gh z o hz
    · by_cases hk : j < A2.length
      · rw [List.getElem?_append_left hk] at e1
        rw [List.getElem?_append_left (by rw [← c2.len]; exact hk)] at e2
        exact c3.mem j z m e1 e2
      · have ek : j = A2.length := by
          have := (List.getElem?_eq_some_iff.mp e1).1
          simp at this; omega
        subst ek
        have e3 : p = z := by simpa using e1
        have e4 : M.mK [(k, d)] = m := by rw [c2.len] at e2; simpa using e2
        subst e3 e4
        exact ⟨_, upd_same, _, rfl, .cons r2 .nil⟩
    · rcases List.mem_append.mp hz with w | w
      · exact c2.ga z w
      · rw [List.mem_singleton.mp w]; exact q2
end
end DL
set_option Elab.async false
set_option linter.all false
set_option maxRecDepth 100000
set_option maxHeartbeats 2000000
/-! DL9: order and equality of data; methods of lists. -/
namespace DL
open PySem PySem.Spec PyProof.Rows L2
open Evl (Ex)
open PySem.W (dataLe dataLt alike alikeAll AllAlike Sortable EachIs sorted_data gt_data le_data)
mutual
/-- a datum as the kit tells it -/
def py : D → PyData
  | .non => .none
  | .bl b => .bool b
  | .int i => .int i
  | .str x => .str x
  | .tup xs => .tuple (pys xs)
  | .tux xs => .tuple (pys xs)
  | .lst xs => .list (pys xs)
  | .sq xs => .list (pys xs)
  | .dK _ => .none
  | .dT _ => .none
def pys : List D → List PyData
  | [] => []
  | x :: r => py x :: pys r
end
mutual
/-- no dict within -/
def pl : D → Bool
  | .dK _ => false
  | .dT _ => false
  | .tup xs => pls xs
  | .tux xs => pls xs
  | .lst xs => pls xs
  | .sq xs => pls xs
  | _ => true
def pls : List D → Bool
  | [] => true
  | x :: r => pl x && pls r
end
section
variable {K : PySem.W.Frag} {G H : Hp} (e : Ex G H)
include e
mutual
theorem rep_dp : ∀ {d : D} {v : V}, pl d = true → Rep K G v d → Dp K H v (py d)
  | .non, _, _, .non => .non
  | .bl b, _, _, .bl _ => .bl b
  | .int b, _, _, .int _ => .int b
  | .str b, _, _, .str _ => .str b
  | .tup xs, _, p, .tup h r => .tup (.inl (Evl.ex_rd e (.inl h))) (reps_dp p r)
  | .tux xs, _, p, .tux h _ _ r => .tup (.inl (Evl.ex_rd e (.inr ⟨_, h⟩))) (reps_dp p r)
  | .lst xs, _, p, .lst h r => .lst (SqL.of (e _ _ h)) (reps_dp p r)
  | .sq xs, _, p, .sq h r => .lst (Evl.ex_l e h) (reps_dp p r)
theorem reps_dp : ∀ {ds : List D} {vs : List V}, pls ds = true → Reps K G vs ds → DpAll K H vs (pys ds)
  | [], _, _, .nil => .nil
  | x :: r, _, p, .cons a b => .cons (rep_dp (by unfold pls at p; exact (Bool.and_eq_true _ _ ▸ p).1) a) (reps_dp (by unfold pls at p; exact (Bool.and_eq_true _ _ ▸ p).2) b)
end
end
theorem pys_map : ∀ xs : List D, pys xs = xs.map py
  | [] => rfl
  | x :: r => by show py x :: pys r = _; rw [pys_map r]; rfl
theorem pls_all : ∀ {xs : List D}, pls xs = true → ∀ d ∈ xs, pl d = true
  | x :: r, h, d, hd => by
    have h : (pl x && pls r) = true := h
    rw [Bool.and_eq_true] at h
    rcases List.mem_cons.mp hd with e | e
    · rw [e]; exact h.1
    · exact pls_all h.2 d e
/-! ### sorted -/
def sortD (xs : List D) : List D := xs.mergeSort (dataLe false py)
def rSortD (K : PySem.W.Frag) : List V → Hp → VK → Prop := fun vs H Q => ∃ (a : Addr) (ps : List (V × PyData)), vs = [V.ref a] ∧ SqL K H a (ps.map Prod.fst) ∧ (∀ p ∈ ps, Dp K H p.1 p.2) ∧ AllAlike (ps.map Prod.snd) ∧ Sortable (ps.map Prod.snd) ∧ ps.length ≤ sizeLine ∧ (∀ p ∈ ps, p.2.depth ≤ 50) ∧
  ∀ q, H q = none → Q (.ref q) (upd H q (.lst ((ps.mergeSort (dataLe false Prod.snd)).map Prod.fst)))
theorem each_of {R : V → PyData → Prop} : ∀ {ps : List (V × PyData)} {its : List Value}, Vals (ps.map Prod.fst) its → EachIs (fun (u : Value) (p : V × PyData) => RelV p.1 u) its ps
  | [], _, .nil => .nil
  | _ :: _, _, .cons a b => .cons a (each_of (R := R) b)
theorem vals_each : ∀ {ps : List (V × PyData)} {out : List Value}, EachIs (fun (u : Value) (p : V × PyData) => RelV p.1 u) out ps → Vals (ps.map Prod.fst) out
  | _, _, .nil => .nil
  | _, _, .cons a b => .cons a (vals_each b)
theorem each_with {α β : Type} {R R' : α → β → Prop} : ∀ {as : List α} {bs : List β}, EachIs R as bs → (∀ a b, b ∈ bs → R a b → R' a b) → EachIs R' as bs
  | _, _, .nil, _ => .nil
  | _, _, .cons a b, h => .cons (h _ _ List.mem_cons_self a) (each_with b fun x y hy => h x y (List.mem_cons_of_mem _ hy))
theorem cr_sortD {X : Cx} (hu : X.A.units + 64 < cLine) : CallR X (.builtin "sorted") (rSortD X.K) := by
  intro pins s σ H vs us Q I r h
  obtain ⟨a, ps, rfl, hs, hd, hal, hk, hz, hdep, q⟩ := h
  obtain ⟨its, rv, hl, _⟩ := I.list hs
  rw [Vals.ref1 r]
  have er := each_of (R := fun _ _ => True) rv
  refine sorted_data (enc := Prod.snd) hl.isList er (each_with er fun u p hp hr => Dp.reads I p.2 p.1 u (hd p hp) hr) hal hk hz (fun p hp => by have := hdep p hp; omega) fun out ho he => ?_
  obtain ⟨ep, he'⟩ := PyProof.Rows.sortedAll_at s.heap its out.toArray
  have hv := vals_each he
  have hlen : ((ps.mergeSort (dataLe false Prod.snd)).map Prod.fst).length ≤ sizeLine := by rw [List.length_map, List.length_mergeSort]; exact hz
  exact ⟨.ref _, upd H (s.heap.objs.size + 1) (.lst ((ps.mergeSort (dataLe false Prod.snd)).map Prod.fst)), I.laid (t' := s.toks) (fun _ _ => PyProof.Rows.sortedAll_old) (Nat.le_succ _) ⟨hlen, out, ep, hv, he'⟩, rfl, q _ (I.hok.fresh (Nat.le_succ _))⟩
theorem reps_of_all {K : PySem.W.Frag} {G : Hp} : ∀ {ps : List (V × D)}, (∀ p ∈ ps, Rep K G p.1 p.2) → Reps K G (ps.map Prod.fst) (ps.map Prod.snd)
  | [], _ => .nil
  | p :: r, h => .cons (h p List.mem_cons_self) (reps_of_all fun q hq => h q (List.mem_cons_of_mem _ hq))
theorem reps_zip {K : PySem.W.Frag} {G : Hp} : ∀ {vs : List V} {ds : List D}, Reps K G vs ds → ∃ ps : List (V × D), vs = ps.map Prod.fst ∧ ds = ps.map Prod.snd ∧ ∀ p ∈ ps, Rep K G p.1 p.2
  | _, _, .nil => ⟨[], rfl, rfl, fun _ h => nomatch h⟩
  | _, _, .cons a b => by
    obtain ⟨ps, h1, h2, h3⟩ := reps_zip b
    refine ⟨(_, _) :: ps, by rw [h1]; rfl, by rw [h2]; rfl, fun p hp => ?_⟩
    rcases List.mem_cons.mp hp with e | e
    · rw [e]; exact a
    · exact h3 p e
section
variable {X : Cx} {sc : Scope} {N : List Str} {δ : DS} {μ : List M} {R : W → List M → Prop} {RB : Bool → List M → Prop} {a b e f : Expr} {pos p apos cpos : Pos} {k : Nat}
theorem v_sortD {K : PySem.W.Frag} {w : W} {xs : List D} (o : Bool) (s : LstW μ w xs) (hp : pls xs = true) (hal : AllAlike (xs.map py)) (hk : Sortable (xs.map py)) (hz : xs.length ≤ 40000) (hd : ∀ d ∈ xs, (py d).depth ≤ 50) (h : mkL o R (sortD xs) μ) : RVL K (rSortD K) [w] μ R := fun G H A vs c r Q l => by
  obtain ⟨v, rfl, r1⟩ := rws1 r
  obtain ⟨q, us, rfl, hq, rs⟩ := s.at_ c r1
  obtain ⟨ps, rfl, rfl, hps⟩ := reps_zip rs
  refine ⟨q, ps.map fun p => (p.1, py p.2), rfl, by rw [List.map_map]; exact hq, fun p hp' => ?_, by rw [List.map_map]; rw [List.map_map] at hal; exact hal, by rw [List.map_map]; rw [List.map_map] at hk; exact hk, by rw [List.length_map]; rw [List.length_map] at hz; exact Evl.sz_of (by omega), fun p hp' => ?_, fun t ht => ?_⟩
  · obtain ⟨p0, h0, rfl⟩ := List.mem_map.mp hp'
    exact rep_dp c.gh (pls_all hp _ (List.mem_map_of_mem h0)) (hps p0 h0)
  · obtain ⟨p0, h0, rfl⟩ := List.mem_map.mp hp'
    exact hd _ (List.mem_map_of_mem h0)
  · have e1 : (ps.map fun p => (p.1, py p.2)).mergeSort (dataLe false Prod.snd) = (ps.mergeSort (dataLe false fun p => py p.2)).map fun p => (p.1, py p.2) :=
      (PySem.W.sort_maps (fun p : V × D => (p.1, py p.2)) fun x _ y _ => rfl).symm
    have e2 : sortD (ps.map Prod.snd) = (ps.mergeSort (dataLe false fun p => py p.2)).map Prod.snd := (PySem.W.sort_maps (fun p : V × D => p.2) fun x _ y _ => rfl).symm
    rw [e1, List.map_map]
    refine l.newB (o := o) c ht (xs := sortD (ps.map Prod.snd)) ?_ h
    rw [e2]
    exact reps_of_all fun p hp' => hps p ((List.mergeSort_perm _ _).mem_iff.mp hp')
theorem x_sorted (G : GX X sc N) (hr : Room k X.A) (hm : (moOf X).mg "sorted" = none) (o : Bool) (h : WE X e δ μ fun w μ1 => ∃ xs, LstW μ1 w xs ∧ pls xs = true ∧ AllAlike (xs.map py) ∧ Sortable (xs.map py) ∧ xs.length ≤ 40000 ∧ (∀ d ∈ xs, (py d).depth ≤ 50) ∧ mkL o R (sortD xs) μ1)
    (hg : sc.names.lookup ("sorted" : Str) = some .globalImplicit := by rfl) (hs : starEach [e] X.env = (false, eval e X.env) :: starEach [] X.env := by rfl) : WE X (.Call (.Name "sorted" p) [e] [] pos) δ μ R :=
  x_B1 G (cr_sortD hr.units) hm (by decide +kernel) (h.mono fun _ _ ⟨xs, s, h1, h2, h3, h4, h5, h6⟩ => v_sortD o s h1 h2 h3 h4 h5 h6) hg (hs := hs)
/-! ### >, <= of alike data -/
def rGtD (K : PySem.W.Frag) : R2 := fun x y H Q => ∃ d e, Dp K H x d ∧ Dp K H y e ∧ alike d e = true ∧ d ≠ .none ∧ d.depth ≤ 50 ∧ Q (.bl (dataLt e d)) H
theorem op_gtD (hu : X.A.units + 64 < cLine) : OpR X (compareOp .Gt) (rGtD X.K) := by
  intro pins s σ H x y v u Q I rx ry h
  obtain ⟨d, e, hd, he, ha, hn, hz, q⟩ := h
  obtain ⟨as, r1⟩ := Dp.reads I d x v hd rx
  obtain ⟨bs, r2⟩ := Dp.reads I e y u he ry
  exact gt_data r1 r2 ha hn (by omega) ⟨.bl _, H, I, rfl, q⟩
def rLeD (K : PySem.W.Frag) : R2 := fun x y H Q => ∃ d e, Dp K H x d ∧ Dp K H y e ∧ alike d e = true ∧ d ≠ .none ∧ d.depth ≤ 50 ∧ Q (.bl (!dataLt e d)) H
theorem op_leD (hu : X.A.units + 64 < cLine) : OpR X (compareOp .LtE) (rLeD X.K) := by
  intro pins s σ H x y v u Q I rx ry h
  obtain ⟨d, e, hd, he, ha, hn, hz, q⟩ := h
  obtain ⟨as, r1⟩ := Dp.reads I d x v hd rx
  obtain ⟨bs, r2⟩ := Dp.reads I e y u he ry
  exact le_data r1 r2 ha hn (by omega) ⟨.bl _, H, I, rfl, q⟩
/-- a pair of ints -/
def mom (i j : Int) : D := .tup [.int i, .int j]
theorem py_mom (i j : Int) : py (mom i j) = .tuple [.int i, .int j] := rfl
theorem alike_mom (i j i' j' : Int) : alike (py (mom i j)) (py (mom i' j')) = true := by simp [py_mom, alike, alikeAll]
theorem depth_mom (i j : Int) : (py (mom i j)).depth ≤ 50 := by rw [py_mom]; simp [PyData.depth, PyData.depthAll]
theorem lt_mom (i j i' j' : Int) : dataLt (py (mom i j)) (py (mom i' j')) = decide (i < i' ∨ (i = i' ∧ j < j')) := PySem.W.dataLt_ii i j i' j'
/-- m > m', m <= m' of moments -/
theorem t_gtM (hr : Room k X.A) (h : WE X a δ μ fun w1 μ1 => WE X b δ μ1 fun w2 μ2 => ∃ i j i' j', w1 = .val (mom i j) ∧ w2 = .val (mom i' j') ∧ RB (decide (i' < i ∨ (i' = i ∧ j' < j))) μ2) : WT X (.Compare a [.Gt] [b] pos) δ μ RB :=
  t_cmp (op_gtD hr.units) (nomark _) (h.mono fun _ _ h1 => h1.mono fun _ _ ⟨i, j, i', j', e1, e2, h2⟩ => by
    subst e1 e2
    exact fun G H A v1 v2 c r1 r2 Q l => ⟨_, _, rep_dp c.gh (d := mom i j) rfl r1, rep_dp c.gh (d := mom i' j') rfl r2, alike_mom .., by rw [py_mom]; exact fun z => (nomatch z), depth_mom .., l.now (w := .val (.bl (dataLt (py (mom i' j')) (py (mom i j))))) c (Rep.bl _) ⟨_, rfl, by rw [lt_mom]; exact h2⟩⟩)
theorem x_leM (hr : Room k X.A) (h : WE X a δ μ fun w1 μ1 => WE X b δ μ1 fun w2 μ2 => ∃ i j i' j', w1 = .val (mom i j) ∧ w2 = .val (mom i' j') ∧ R (.val (.bl (!decide (i' < i ∨ (i' = i ∧ j' < j))))) μ2) : WE X (.Compare a [.LtE] [b] pos) δ μ R :=
  x_cmp (op_leD hr.units) (nomark _) (h.mono fun _ _ h1 => h1.mono fun _ _ ⟨i, j, i', j', e1, e2, h2⟩ => by
    subst e1 e2
    exact fun G H A v1 v2 c r1 r2 Q l => ⟨_, _, rep_dp c.gh (d := mom i j) rfl r1, rep_dp c.gh (d := mom i' j') rfl r2, alike_mom .., by rw [py_mom]; exact fun z => (nomatch z), depth_mom .., l.now (w := .val (.bl (!dataLt (py (mom i' j')) (py (mom i j))))) c (Rep.bl _) (by rw [lt_mom]; exact h2)⟩)
theorem t_leM (hr : Room k X.A) (h : WE X a δ μ fun w1 μ1 => WE X b δ μ1 fun w2 μ2 => ∃ i j i' j', w1 = .val (mom i j) ∧ w2 = .val (mom i' j') ∧ RB (!decide (i' < i ∨ (i' = i ∧ j' < j))) μ2) : WT X (.Compare a [.LtE] [b] pos) δ μ RB :=
  t_cmp (op_leD hr.units) (nomark _) (h.mono fun _ _ h1 => h1.mono fun _ _ ⟨i, j, i', j', e1, e2, h2⟩ => by
    subst e1 e2
    exact fun G H A v1 v2 c r1 r2 Q l => ⟨_, _, rep_dp c.gh (d := mom i j) rfl r1, rep_dp c.gh (d := mom i' j') rfl r2, alike_mom .., by rw [py_mom]; exact fun z => (nomatch z), depth_mom .., l.now (w := .val (.bl (!dataLt (py (mom i' j')) (py (mom i j))))) c (Rep.bl _) ⟨_, rfl, by rw [lt_mom]; exact h2⟩⟩)
/-! ### deep == and != -/
def shp (d : D) : Bool := SeqAt.shaped (py d)
theorem dpW {K : PySem.W.Frag} {G H : Hp} {A : List Addr} {w : W} {v : V} {xs : List D} (s : LstW μ w xs) (c : Con K G H A μ) (r : RepW K G A v w) (hp : pls xs = true) : Dp K H v (.list (pys xs)) := by
  obtain ⟨q, us, rfl, hq, rs⟩ := s.at_ c r
  exact .lst hq (reps_dp c.gh hp rs)
/-- list != list -/
theorem t_neL (hr : Room k X.A) (h : WE X a δ μ fun w1 μ1 => WE X b δ μ1 fun w2 μ2 => ∃ xs ys, LstW μ2 w1 xs ∧ LstW μ2 w2 ys ∧ pls xs = true ∧ pls ys = true ∧ SeqAt.shaped (.list (pys xs)) = true ∧ SeqAt.shaped (.list (pys ys)) = true ∧ RB (!PyData.eqv (.list (pys xs)) (.list (pys ys))) μ2) : WT X (.Compare a [.NotEq] [b] pos) δ μ RB :=
  t_cmp (op_neD hr.units) (nomark _) (h.mono fun _ _ h => h.mono fun _ _ ⟨xs, ys, s1, s2, p1, p2, h1, h2, h⟩ => fun G H A v1 v2 c r1 r2 Q l =>
    ⟨_, _, dpW s1 c r1 p1, dpW s2 c r2 p2, h1, h2, l.now (w := .val (.bl (!PyData.eqv (.list (pys xs)) (.list (pys ys))))) c (Rep.bl _) ⟨_, rfl, h⟩⟩)
theorem x_eqL (hr : Room k X.A) (h : WE X a δ μ fun w1 μ1 => WE X b δ μ1 fun w2 μ2 => ∃ xs ys, LstW μ2 w1 xs ∧ LstW μ2 w2 ys ∧ pls xs = true ∧ pls ys = true ∧ SeqAt.shaped (.list (pys xs)) = true ∧ SeqAt.shaped (.list (pys ys)) = true ∧ R (.val (.bl (PyData.eqv (.list (pys xs)) (.list (pys ys))))) μ2) : WE X (.Compare a [.Eq] [b] pos) δ μ R :=
  x_cmp (op_eqD hr.units) (nomark _) (h.mono fun _ _ h => h.mono fun _ _ ⟨xs, ys, s1, s2, p1, p2, h1, h2, h⟩ => fun G H A v1 v2 c r1 r2 Q l =>
    ⟨_, _, dpW s1 c r1 p1, dpW s2 c r2 p2, h1, h2, l.now (w := .val (.bl (PyData.eqv (.list (pys xs)) (.list (pys ys))))) c (Rep.bl _) h⟩)
/-- data != data -/
theorem t_neD (hr : Room k X.A) (h : WE X a δ μ fun w1 μ1 => WE X b δ μ1 fun w2 μ2 => ∃ d e, w1 = .val d ∧ w2 = .val e ∧ pl d = true ∧ pl e = true ∧ SeqAt.shaped (py d) = true ∧ SeqAt.shaped (py e) = true ∧ RB (!PyData.eqv (py d) (py e)) μ2) : WT X (.Compare a [.NotEq] [b] pos) δ μ RB :=
  t_cmp (op_neD hr.units) (nomark _) (h.mono fun _ _ h4 => h4.mono fun _ _ ⟨d, e, e1, e2, p1, p2, h1, h2, h3⟩ => by
    subst e1 e2
    exact fun G H A v1 v2 c r1 r2 Q l => ⟨_, _, rep_dp c.gh p1 r1, rep_dp c.gh p2 r2, h1, h2, l.now (w := .val (.bl (!PyData.eqv (py d) (py e)))) c (Rep.bl _) ⟨_, rfl, h3⟩⟩)
end
end DL
set_option Elab.async false
set_option linter.all false
set_option maxRecDepth 100000
set_option maxHeartbeats 2000000
/-! DL10: methods of lists, stores, +, *, in, three at once. -/
namespace DL
open PySem PySem.Spec PyProof.Rows L2
open Evl (Ex)
section
variable {X : Cx} {sc : Scope} {N : List Str} {δ : DS} {μ : List M} {R : W → List M → Prop} {RB : Bool → List M → Prop} {a b c e f : Expr} {es : List Expr} {pos p apos cpos : Pos} {k : Nat}
/-- a method of a built-in type -/
theorem x_bm {T id : String} {name : Str} {r : V → List V → Hp → VK → Prop} (pa : PlainAttrs T) (slot : Slot T name id) (hty : typeOf (.builtin id) = pure (.type "method_descriptor")) (hm : MtR X id r)
    (h : WE X a δ μ fun w μ1 => TyW X.K T w μ1 ∧ WA X (e :: es) δ μ1 fun ws μ2 => RVM X.K r w ws μ2 R) (hbase : attributeBase a name X.env (eval a X.env) = eval a X.env)
    (hfew : ((backTo cpos (starEach (e :: es) X.env)).all (fun x => !x.1) && (backToKw cpos (keywordEach [] X.env)).all (fun x => x.1.isSome) && decide ((e :: es).length + ([] : List Keyword).length + (if ([] : List Keyword).isEmpty then 0 else 1) < 30)) = true)
    (hline : (apos.endLine == cpos.line) = true) (hs : starEach (e :: es) X.env = (false, eval e X.env) :: starEach es X.env) (hplain : (backTo cpos (starEach es X.env)).any (·.1) = false) : WE X (.Call (.Attribute a name apos) (e :: es) [] cpos) δ μ R :=
  .of (pe_bm pa slot hty hm pe_w pa_w hbase hfew hline hs hplain) (ev_bm h)
theorem x_bm0 {T id : String} {name : Str} {r : V → List V → Hp → VK → Prop} (pa : PlainAttrs T) (slot : Slot T name id) (hty : typeOf (.builtin id) = pure (.type "method_descriptor")) (hm : MtR X id r)
    (h : WE X a δ μ fun w μ1 => TyW X.K T w μ1 ∧ RVM X.K r w [] μ1 R) (hbase : attributeBase a name X.env (eval a X.env) = eval a X.env) (hline : (apos.endLine == cpos.line) = true) : WE X (.Call (.Attribute a name apos) [] [] cpos) δ μ R :=
  .of (pe_bm0 pa slot hty hm pe_w hbase hline) (ev_bm0 h)
theorem v_append {K : PySem.W.Frag} {j : Nat} {xs : List D} {d : D} (hm : μ[j]? = some (.ml xs)) (hz : xs.length ≤ 40000) (h : R (.val .non) (μ.set j (.ml (xs ++ [d])))) : RVM K rAppend (.own j) [.val d] μ R := fun G H A v vs c r rv Q l => by
  obtain ⟨q, us, rfl, hA, hH, hR⟩ := c.ownL hm r
  obtain ⟨y, rfl, ry⟩ := rws1 rv
  obtain ⟨c1, s1⟩ := c.put hA (o := .lst (us ++ [y])) (m := .ml (xs ++ [d])) ⟨_, rfl, hR.append (.one ry)⟩
  exact ⟨q, us, y, rfl, rfl, hH, Evl.sz_lt (by rw [hR.length]; omega), l _ (.val .non) _ _ _ _ s1 c1 Rep.non h⟩
/-- o.append(e) -/
theorem x_append (h : WE X a δ μ fun w μ1 => ∃ j, w = .own j ∧ (∃ xs, μ1[j]? = some (.ml xs)) ∧ WE X e δ μ1 fun wy μ2 => ∃ xs d, μ2[j]? = some (.ml xs) ∧ wy = .val d ∧ xs.length ≤ 40000 ∧ R (.val .non) (μ2.set j (.ml (xs ++ [d]))))
    (hbase : attributeBase a "append" X.env (eval a X.env) = eval a X.env := by rfl) (hfew : ((backTo cpos (starEach [e] X.env)).all (fun x => !x.1) && (backToKw cpos (keywordEach [] X.env)).all (fun x => x.1.isSome) && decide (([e] : List Expr).length + ([] : List Keyword).length + (if ([] : List Keyword).isEmpty then 0 else 1) < 30)) = true := by rfl)
    (hline : (apos.endLine == cpos.line) = true := by rfl) (hs : starEach [e] X.env = (false, eval e X.env) :: starEach [] X.env := by rfl) : WE X (.Call (.Attribute a "append" apos) [e] [] cpos) δ μ R :=
  x_bm F.plainAttrs_list F.slot_list_append F.type_list_append mt_append (h.mono fun w μ1 ⟨j, e1, ⟨xs0, h0⟩, h1⟩ => by
    subst e1
    exact ⟨tyW_ownL h0, wa1 (h1.mono fun wy μ2 ⟨xs, d, h2, e2, h3, h4⟩ => by subst e2; exact v_append h2 h3 h4) hs⟩) hbase hfew hline hs rfl
theorem v_extend {K : PySem.W.Frag} {j : Nat} {xs ys : List D} (hm : μ[j]? = some (.ml xs)) (hz : xs.length + ys.length ≤ 40000) (h : R (.val .non) (μ.set j (.ml (xs ++ ys)))) : RVM K rExtend (.own j) [.val (.lst ys)] μ R := fun G H A v vs c r rv Q l => by
  obtain ⟨q, us, rfl, hA, hH, hR⟩ := c.ownL hm r
  obtain ⟨y, rfl, ry⟩ := rws1 rv
  cases ry with
  | lst q1 q2 =>
    obtain ⟨c1, s1⟩ := c.put hA (o := .lst (us ++ _)) (m := .ml (xs ++ ys)) ⟨_, rfl, hR.append q2⟩
    exact ⟨q, _, us, _, rfl, rfl, hH, c.gh _ _ q1, Evl.sz_of (by rw [hR.length, q2.length]; omega), l _ (.val .non) _ _ _ _ s1 c1 Rep.non h⟩
/-- o.extend(list) -/
theorem x_extend (h : WE X a δ μ fun w μ1 => ∃ j, w = .own j ∧ (∃ xs, μ1[j]? = some (.ml xs)) ∧ WE X e δ μ1 fun wy μ2 => ∃ xs ys, μ2[j]? = some (.ml xs) ∧ wy = .val (.lst ys) ∧ xs.length + ys.length ≤ 40000 ∧ R (.val .non) (μ2.set j (.ml (xs ++ ys))))
    (hbase : attributeBase a "extend" X.env (eval a X.env) = eval a X.env := by rfl) (hfew : ((backTo cpos (starEach [e] X.env)).all (fun x => !x.1) && (backToKw cpos (keywordEach [] X.env)).all (fun x => x.1.isSome) && decide (([e] : List Expr).length + ([] : List Keyword).length + (if ([] : List Keyword).isEmpty then 0 else 1) < 30)) = true := by rfl)
    (hline : (apos.endLine == cpos.line) = true := by rfl) (hs : starEach [e] X.env = (false, eval e X.env) :: starEach [] X.env := by rfl) : WE X (.Call (.Attribute a "extend" apos) [e] [] cpos) δ μ R :=
  x_bm F.plainAttrs_list F.slot_list_extend (by kernel_rfl) mt_extend (h.mono fun w μ1 ⟨j, e1, ⟨xs0, h0⟩, h1⟩ => by
    subst e1
    exact ⟨tyW_ownL h0, wa1 (h1.mono fun wy μ2 ⟨xs, ys, h2, e2, h3, h4⟩ => by subst e2; exact v_extend h2 h3 h4) hs⟩) hbase hfew hline hs rfl
theorem v_pop {K : PySem.W.Frag} {j : Nat} {xs : List D} {d : D} (hm : μ[j]? = some (.ml xs)) (hd : xs[xs.length - 1]? = some d) (h : R (.val d) (μ.set j (.ml xs.dropLast))) : RVM K rPop (.own j) [] μ R := fun G H A v vs c r rv Q l => by
  obtain ⟨q, us, rfl, hA, hH, hR⟩ := c.ownL hm r
  cases rv
  obtain ⟨y, hy, ry⟩ := hR.get hd
  obtain ⟨c1, s1⟩ := c.put hA (o := .lst us.dropLast) (m := .ml xs.dropLast) ⟨_, rfl, hR.dropLast⟩
  exact ⟨q, us, y, rfl, rfl, hH, by rw [hR.length]; exact hy, l _ (.val d) _ _ _ _ s1 c1 ry h⟩
/-- o.pop() -/
theorem x_pop (h : WE X a δ μ fun w μ1 => ∃ j xs d, w = .own j ∧ μ1[j]? = some (.ml xs) ∧ xs[xs.length - 1]? = some d ∧ R (.val d) (μ1.set j (.ml xs.dropLast))) (hbase : attributeBase a "pop" X.env (eval a X.env) = eval a X.env := by rfl) (hline : (apos.endLine == cpos.line) = true := by rfl) : WE X (.Call (.Attribute a "pop" apos) [] [] cpos) δ μ R :=
  x_bm0 F.plainAttrs_list F.slot_list_pop (by kernel_rfl) mt_pop (h.mono fun w μ1 ⟨j, xs, d, e1, h1, h2, h3⟩ => by
    subst e1
    exact ⟨tyW_ownL h1, v_pop h1 h2 h3⟩) hbase hline
theorem v_popAt {K : PySem.W.Frag} {j : Nat} {xs : List D} {i : Int} {d : D} (hm : μ[j]? = some (.ml xs)) (h0 : 0 ≤ i) (hz : xs.length ≤ 40000) (hd : xs[i.toNat]? = some d) (h : R (.val d) (μ.set j (.ml (xs.eraseIdx i.toNat)))) : RVM K rPopAt (.own j) [.val (.int i)] μ R := fun G H A v vs c r rv Q l => by
  obtain ⟨q, us, rfl, hA, hH, hR⟩ := c.ownL hm r
  obtain ⟨z, rfl, rz⟩ := rws1 rv
  cases rz
  obtain ⟨y, hy, ry⟩ := hR.get hd
  have hl := (List.getElem?_eq_some_iff.mp hd).1
  obtain ⟨c1, s1⟩ := c.put hA (o := .lst (us.eraseIdx i.toNat)) (m := .ml (xs.eraseIdx i.toNat)) ⟨_, rfl, hR.eraseIdx _⟩
  exact ⟨q, us, i, i.toNat, y, rfl, rfl, hH, by omega, by omega, seqIndex_of h0 (by rw [hR.length]; omega), hy, l _ (.val d) _ _ _ _ s1 c1 ry h⟩
/-- o.pop(i) -/
theorem x_popAt (h : WE X a δ μ fun w μ1 => ∃ j, w = .own j ∧ (∃ xs, μ1[j]? = some (.ml xs)) ∧ WE X e δ μ1 fun wy μ2 => ∃ xs i d, μ2[j]? = some (.ml xs) ∧ wy = .val (.int i) ∧ 0 ≤ i ∧ xs.length ≤ 40000 ∧ xs[i.toNat]? = some d ∧ R (.val d) (μ2.set j (.ml (xs.eraseIdx i.toNat))))
    (hbase : attributeBase a "pop" X.env (eval a X.env) = eval a X.env := by rfl) (hfew : ((backTo cpos (starEach [e] X.env)).all (fun x => !x.1) && (backToKw cpos (keywordEach [] X.env)).all (fun x => x.1.isSome) && decide (([e] : List Expr).length + ([] : List Keyword).length + (if ([] : List Keyword).isEmpty then 0 else 1) < 30)) = true := by rfl)
    (hline : (apos.endLine == cpos.line) = true := by rfl) (hs : starEach [e] X.env = (false, eval e X.env) :: starEach [] X.env := by rfl) : WE X (.Call (.Attribute a "pop" apos) [e] [] cpos) δ μ R :=
  x_bm F.plainAttrs_list F.slot_list_pop (by kernel_rfl) mt_popAt (h.mono fun w μ1 ⟨j, e1, ⟨xs0, h0⟩, h1⟩ => by
    subst e1
    exact ⟨tyW_ownL h0, wa1 (h1.mono fun wy μ2 ⟨xs, i, d, h2, e2, h3, h4, h5, h6⟩ => by subst e2; exact v_popAt h2 h3 h4 h5 h6) hs⟩) hbase hfew hline hs rfl
/-- o[i] = v of an owned list -/
theorem g_sub {d : D} {P : DS → List M → Prop} (h : WE X a δ μ fun w μ1 => WE X b δ μ1 fun wi μ2 => ∃ j xs i n, w = .own j ∧ wi = .val (.int i) ∧ μ2[j]? = some (.ml xs) ∧ ixN xs.length i = some n ∧ P δ (μ2.set j (.ml (xs.set n d))))
    (ha : ∀ v, assign (.Subscript a b pos) X.env v = (do
      let ov ← holding [v] (eval a X.env)
      let iv ← holding [v, ov] (eval b X.env)
      standAt pos
      holding [v, ov, iv] (setItem ov iv v)
      release [v, ov, iv] []) := by intro _; rfl) : WG X (.Subscript a b pos) (.val d) δ μ P :=
  .of (pg_sub pe_w pe_w set_list ha) fun G H A σ v c s r Q l => h G H A σ c s _ fun x w G1 H1 A1 μ1 s1 c1 r1 h1 => h1 G1 H1 A1 σ c1 (s.step s1) _ fun y wi G2 H2 A2 μ2 s2 c2 r2 ⟨j, xs, i, n, e1, e2, h2, h3, h4⟩ => by
    subst e1 e2
    obtain ⟨q, us, rfl, hA, hH, hR⟩ := c2.ownL h2 (r1.step s2)
    cases r2
    have rv : Rep X.K G2 v d := (show Rep X.K G v d from r).mono (s1.g.trans s2.g)
    obtain ⟨c3, s3⟩ := c2.put hA (o := .lst (us.set n v)) (m := .ml (xs.set n d)) ⟨_, rfl, hR.set n rv⟩
    exact ⟨q, us, i, n, rfl, rfl, hH, by rw [hR.length]; exact h3, l σ δ _ _ _ _ ((s1.trans c1 s2).trans c2 s3) c3 (((s.step s1).step s2).step s3) h4⟩
/-- list + list, list * n -/
inductive LstH (μ : List M) : W → List D → Prop
  | lst {xs : List D} : LstH μ (.val (.lst xs)) xs
  | own {k : Nat} {xs : List D} (h : μ[k]? = some (.ml xs)) : LstH μ (.own k) xs
theorem LstH.at_ {K : PySem.W.Frag} {G H : Hp} {A : List Addr} {w : W} {v : V} {xs : List D} (s : LstH μ w xs) (c : Con K G H A μ) (r : RepW K G A v w) : ∃ a vs, v = .ref a ∧ H a = some (.lst vs) ∧ Reps K G vs xs := by
  cases s with
  | lst =>
    cases r with
    | lst h1 h2 => exact ⟨_, _, rfl, c.gh _ _ h1, h2⟩
  | own h =>
    obtain ⟨a, vs, rfl, _, h1, h2⟩ := c.ownL h r
    exact ⟨a, vs, rfl, h1, h2⟩
theorem x_cat (o : Bool) (h : WE X a δ μ fun w1 μ1 => WE X b δ μ1 fun w2 μ2 => ∃ xs ys, LstH μ2 w1 xs ∧ LstH μ2 w2 ys ∧ xs.length + ys.length ≤ 40000 ∧ mkL o R (xs ++ ys) μ2) : WE X (.BinOp a .Add b pos) δ μ R :=
  x_op op_cat (h.mono fun _ _ h => h.mono fun _ _ ⟨xs, ys, s1, s2, hz, h⟩ => fun G H A v1 v2 c r1 r2 Q l => by
    obtain ⟨p1, us1, rfl, h1, q1⟩ := s1.at_ c r1
    obtain ⟨p2, us2, rfl, h2, q2⟩ := s2.at_ c r2
    exact ⟨p1, p2, us1, us2, rfl, rfl, h1, h2, Evl.sz_of (by rw [q1.length, q2.length]; omega), fun q hq => l.newB c hq (q1.append q2) h⟩)
theorem reps_rep {K : PySem.W.Frag} {G : Hp} {vs : List V} {xs : List D} (r : Reps K G vs xs) : ∀ n : Nat, Reps K G (List.replicate n vs).flatten (List.replicate n xs).flatten
  | 0 => .nil
  | n + 1 => by
    rw [List.replicate_succ, List.replicate_succ, List.flatten_cons, List.flatten_cons]
    exact r.append (reps_rep r n)
/-- [x] * n -/
theorem x_rep (o : Bool) (h : WE X a δ μ fun w1 μ1 => WE X b δ μ1 fun w2 μ2 => ∃ (d : D) (n : Int), w1 = .val (.lst [d]) ∧ w2 = .val (.int n) ∧ -(2 ^ 63) ≤ n ∧ n.toNat ≤ 40000 ∧ mkL o R (List.replicate n.toNat d) μ2) : WE X (.BinOp a .Mult b pos) δ μ R :=
  x_op op_rep (h.mono fun _ _ h1 => h1.mono fun _ _ ⟨d, n, e1, e2, h0, hz, h2⟩ => by
    subst e1 e2
    intro G H A v1 v2 c r1 r2 Q l
    cases r2
    cases r1 with
    | @lst p us _ q1 q2 =>
      refine ⟨p, n, us, rfl, rfl, c.gh _ _ q1, h0, by omega, Evl.sz_of (by rw [q2.length]; simp; omega), fun q hq => l.newB c hq (xs := List.replicate n.toNat d) ?_ h2⟩
      have := reps_rep q2 n.toNat
      rwa [show (List.replicate n.toNat [d]).flatten = List.replicate n.toNat d by simp] at this)
/-- tuple + tuple, both not empty -/
theorem x_catT (h : WE X a δ μ fun w1 μ1 => WE X b δ μ1 fun w2 μ2 => ∃ d e xs ys, w1 = .val d ∧ w2 = .val e ∧ TupD d xs ∧ TupD e ys ∧ xs ≠ [] ∧ ys ≠ [] ∧ xs.length + ys.length ≤ 40000 ∧ R (.val (.tup (xs ++ ys))) μ2) : WE X (.BinOp a .Add b pos) δ μ R :=
  x_op op_catT (h.mono fun _ _ h1 => h1.mono fun _ _ ⟨d, e, xs, ys, e1, e2, t1, t2, n1, n2, hz, h2⟩ => by
    subst e1 e2
    intro G H A v1 v2 c r1 r2 Q l
    obtain ⟨p1, us1, rfl, g1, q1⟩ := Rep.tupD r1 t1
    obtain ⟨p2, us2, rfl, g2, q2⟩ := Rep.tupD r2 t2
    refine ⟨p1, p2, us1, us2, rfl, rfl, .inl (Evl.ex_rd c.gh g1), .inl (Evl.ex_rd c.gh g2), fun z => n1 ?_, Evl.sz_of (by rw [q1.length, q2.length]; omega), fun z => absurd ?_ n2, fun _ q hq => l.newT c hq (q1.append q2) h2⟩
    · have := q1.length
      rw [z] at this
      exact List.length_eq_zero_iff.mp this.symm
    · have := q2.length
      rw [z] at this
      exact List.length_eq_zero_iff.mp this.symm)
/-! in -/
theorem flat_strV (ys : List Str) : (ys.map V.str).all flatV = true := by
  rw [List.all_map]
  exact List.all_eq_true.mpr fun _ _ => rfl
theorem inV_str (z : Str) (ys : List Str) : inV (.str z) (ys.map V.str) = decide (z ∈ ys) := by
  unfold inV
  rw [List.any_map]
  by_cases h : z ∈ ys
  · rw [decide_eq_true h]
    exact List.any_eq_true.mpr ⟨z, h, beq_self_eq_true z⟩
  · rw [decide_eq_false h]
    refine List.any_eq_false.mpr fun y hy e => h ?_
    have e' : y = z := eq_of_beq e
    rw [← e']
    exact hy
theorem v_inS {K : PySem.W.Frag} {w : W} {z : Str} {ys : List Str} (neg : Bool) (s : SeqW μ w (ys.map D.str)) (h : R (.val (.bl (if neg then !decide (z ∈ ys) else decide (z ∈ ys)))) μ) : RV2 K (rIn K neg) (.val (.str z)) w μ R := fun G H A v1 v2 c r1 r2 Q l => by
  obtain ⟨p, us, rfl, hq, rs⟩ := s.at_ c r2
  cases r1
  obtain rfl := rs.strs
  refine ⟨p, _, rfl, hq, rfl, flat_strV ys, l.now (w := .val (.bl (if neg then !decide (z ∈ ys) else decide (z ∈ ys)))) c ?_ h⟩
  rw [inV_str]
  exact Rep.bl _
theorem x_inS (h : WE X a δ μ fun w1 μ1 => WE X b δ μ1 fun w2 μ2 => ∃ z, ∃ ys : List Str, w1 = .val (.str z) ∧ SeqW μ2 w2 (ys.map D.str) ∧ R (.val (.bl (decide (z ∈ ys)))) μ2) (hm : behindInMarks .In b = false := by rfl) : WE X (.Compare a [.In] [b] pos) δ μ R :=
  x_cmp op_in_seq hm (h.mono fun _ _ h1 => h1.mono fun _ _ ⟨z, ys, e1, s, h2⟩ => by subst e1; exact v_inS false s h2)
theorem t_inS (h : WE X a δ μ fun w1 μ1 => WE X b δ μ1 fun w2 μ2 => ∃ z, ∃ ys : List Str, w1 = .val (.str z) ∧ SeqW μ2 w2 (ys.map D.str) ∧ RB (decide (z ∈ ys)) μ2) (hm : behindInMarks .In b = false := by rfl) : WT X (.Compare a [.In] [b] pos) δ μ RB :=
  t_cmp op_in_seq hm (h.mono fun _ _ h1 => h1.mono fun _ _ ⟨z, ys, e1, s, h2⟩ => by subst e1; exact v_inS false s ⟨_, rfl, h2⟩)
theorem t_notInS (h : WE X a δ μ fun w1 μ1 => WE X b δ μ1 fun w2 μ2 => ∃ z, ∃ ys : List Str, w1 = .val (.str z) ∧ SeqW μ2 w2 (ys.map D.str) ∧ RB (!decide (z ∈ ys)) μ2) (hm : behindInMarks .NotIn b = false := by rfl) : WT X (.Compare a [.NotIn] [b] pos) δ μ RB :=
  t_cmp op_notIn_seq hm (h.mono fun _ _ h1 => h1.mono fun _ _ ⟨z, ys, e1, s, h2⟩ => by subst e1; exact v_inS true s ⟨_, rfl, h2⟩)
/-- a sign in a text -/
theorem x_inC (h : WE X a δ μ fun w1 μ1 => WE X b δ μ1 fun w2 μ2 => ∃ i z, w1 = .val (.str ⟨#[i]⟩) ∧ w2 = .val (.str z) ∧ R (.val (.bl (decide (i ∈ z.cps.toList)))) μ2) (hm : behindInMarks .In b = false := by rfl) : WE X (.Compare a [.In] [b] pos) δ μ R :=
  x_cmp op_in_sign hm (h.mono fun _ _ h1 => h1.mono fun _ _ ⟨i, z, e1, e2, h2⟩ => by
    subst e1 e2
    intro G H A v1 v2 c r1 r2 Q l
    cases r1; cases r2
    exact ⟨i, z, rfl, rfl, l.now (w := .val (.bl (decide (i ∈ z.cps.toList)))) c (Rep.bl _) h2⟩)
/-! three at once -/
theorem s_par3 {D : DE} (G : GX X sc N) (i j l : Nat) {x y z : Str} {px py pz pt : Pos} {kt k2 pt2} (h : WE X a δ μ fun w1 μ1 => WE X b δ μ1 fun w2 μ2 => WE X c δ μ2 fun w3 μ3 => D.nx (((δ.set i (some w1)).set j (some w2)).set l (some w3)) μ3) (hi : N[i]? = some x := by rfl) (hj : N[j]? = some y := by rfl) (hl : N[l]? = some z := by rfl) (hij : i ≠ j := by decide) (hil : i ≠ l := by decide) (hjl : j ≠ l := by decide)
    (hx : sc.names.lookup x = some .local := by rfl) (hy : sc.names.lookup y = some .local := by rfl) (hz : sc.names.lookup z = some .local := by rfl) (hw : ∀ env : Env, env.scope = sc → swappedStores [.Tuple [.Name x px, .Name y py, .Name z pz] kt pt] (.Tuple [a, b, c] k2 pt2) env = pure (some [x, y, z]) := by (intro env h; cases env; cases h; rfl))
    (hs : swapsWithSole [.Tuple [.Name x px, .Name y py, .Name z pz] kt pt] (.Tuple [a, b, c] k2 pt2) pos.line X.env = pure false := by rfl) (hs1 : starEach [a, b, c] X.env = (false, eval a X.env) :: starEach [b, c] X.env := by rfl) (hs2 : starEach [b, c] X.env = (false, eval b X.env) :: starEach [c] X.env := by rfl) (hs3 : starEach [c] X.env = (false, eval c X.env) :: starEach [] X.env := by rfl) :
    WS X (.Assign [.Tuple [.Name x px, .Name y py, .Name z pz] kt pt] (.Tuple [a, b, c] k2 pt2) pos) δ μ D :=
  .of (ps_par3 (i := i) (j := j) (l := l) G.calm G.ndX (by rw [G.n]; exact hi) (by rw [G.n]; exact hj) (by rw [G.n]; exact hl) hij hil hjl (by rw [G.esc]; exact hx) (by rw [G.esc]; exact hy) (by rw [G.esc]; exact hz) (pa_cons pe_w (pa_cons pe_w (pa_cons pe_w pa_nil hs3) hs2) hs1) (hw X.env G.esc) hs)
    fun G0 H A σ cc s E lk => h G0 H A σ cc s _ fun v1 w1 G1 H1 A1 μ1 s1 c1 r1 h1 => h1 G1 H1 A1 σ c1 (s.step s1) _ fun v2 w2 G2 H2 A2 μ2 s2 c2 r2 h2 => h2 G2 H2 A2 σ c2 ((s.step s1).step s2) _ fun v3 w3 G3 H3 A3 μ3 s3 c3 r3 h3 =>
      ⟨v1, v2, v3, rfl, lk.nx _ _ _ _ _ _ ((s1.trans c1 s2).trans c2 s3) c3 ((((((s.step s1).step s2).step s3).set i ((r1.step s2).step s3)).set j (r2.step s3)).set l r3) h3⟩
end
end DL
set_option Elab.async false
set_option linter.all false
set_option maxRecDepth 100000
set_option maxHeartbeats 4000000
/-! DLs: len(set(texts)) of texts that are all unlike. Printed by gen_set.py. -/
namespace DL
open PySem PySem.Spec PyProof.Rows L2
open Evl (Ex)
abbrev SKd (prog : Program) (w : World) := PySem.strKind prog w
theorem take_any_new {xs : List Str} (hnd : xs.Nodup) {i : Nat} (hi : i < xs.length) : ((xs.take i).any (· == xs.getD i Str.empty)) = false := by
  refine List.any_eq_false.mpr fun y hy e => ?_
  have e' : y = xs.getD i Str.empty := eq_of_beq e
  rw [List.getD_eq_getElem?_getD, List.getElem?_eq_getElem hi, Option.getD_some] at e'
  obtain ⟨j, hj, ej⟩ := List.getElem_of_mem hy
  rw [List.getElem_take] at ej
  rw [List.length_take] at hj
  have := (List.getElem_inj hnd).mp (ej.trans e')
  omega
theorem take_any_succ {xs : List Str} {i : Nat} (hi : i < xs.length) (k : Str) : ((xs.take (i + 1)).any (· == k)) = ((xs.take i).any (· == k) || decide (k = xs.getD i Str.empty)) := by
  rw [List.take_add_one, List.any_append, List.getD_eq_getElem?_getD, List.getElem?_eq_getElem hi]
  congr 1
  simp only [Option.toList, List.any_cons, List.any_nil, Bool.or_false, Option.getD_some]
  by_cases e : k = xs[i]
  · rw [decide_eq_true e, e]; exact beq_self_eq_true _
  · rw [decide_eq_false e]; exact beq_eq_false_iff_ne.mpr (Ne.symm e)
section
variable {prog : Program} {w : World} {A : Around} {R : Result → Shared → Prop} {I : Addr} {fp wr : List Addr} {G : Array GenState → Array GenState → Prop} {n : Nat} {P : Nat → Value → Prop} {St : Nat → Shared → Prop}
theorem upd_strs (W : WalksS prog w A.in1 I fp wr G n P St) (S : Addr) (hSf : S ∉ fp) (xs : List Str) (hnd : xs.Nodup) (hsz : xs.length = n) (hb : n + 1 < scanBound) (hval : ∀ i v, P i v → ∃ t, v = .str (xs.getD i Str.empty) t) :
    ∀ (k i : Nat) (s : Shared), n - i = k → i ≤ n → St i s → s.heap.SetOf (SKd prog w) S (fun k' => (xs.take i).any (· == k')) i →
      (∀ s', Moved (S :: wr) G s s' → s'.heap.SetOf (SKd prog w) S (fun k' => (xs.take n).any (· == k')) n → R (.ok (.ret .none)) s') → codeAny (model prog w) A (.builtin "set.update.loop" ⟨[.ref S, .ref I], []⟩) R s := by
  have hSw : S ∉ wr := fun h => hSf (W.sub _ h)
  have hsub : ∀ b ∈ wr, b ∈ S :: wr := fun b hb => List.mem_cons_of_mem _ hb
  intro k
  induction k with
  | zero =>
    intro i s hk hi hst hS hR
    obtain rfl : i = n := by omega
    refine codeAny_builtin PyProof.Rows.F.entry_set_update_loop ?_
    rw [Around.under_plainId PyProof.Rows.F.plain_set_update_loop _]
    show wpAny _ A.in1 (pyNext (.ref I) >>= _) _ _ s
    refine wpAny_bind (W.done s _ _ hst fun s' hm => wpAny_pure (hR s' (hm.mono hsub) ?_))
    obtain ⟨o, es, ep, t, ho, rest⟩ := hS
    exact ⟨o, es, ep, t, hm.heap S _ hSw ho, rest⟩
  | succ k ih =>
    intro i s hk hi hst hS hR
    have hlt : i < n := by omega
    have hlx : i < xs.length := by omega
    refine codeAny_builtin PyProof.Rows.F.entry_set_update_loop ?_
    rw [Around.under_plainId PyProof.Rows.F.plain_set_update_loop _]
    show wpAny _ A.in1 (pyNext (.ref I) >>= _) _ _ s
    refine wpAny_bind (W.item i s _ _ hlt hst fun v s' hP hst' hm => ?_)
    obtain ⟨t, rfl⟩ := hval i v hP
    have hS' : s'.heap.SetOf (SKd prog w) S (fun k' => (xs.take i).any (· == k')) i := by
      obtain ⟨o, es, ep, tb, ho, rest⟩ := hS
      exact ⟨o, es, ep, tb, hm.heap S _ hSw ho, rest⟩
    show wpAny _ A.in1 (holding [Value.str (xs.getD i Str.empty) t] (setAdd S (.str (xs.getD i Str.empty) t)) >>= _) _ _ s'
    refine wpAny_bind (wpAny_holding ?_)
    unfold setAdd
    refine wpAny_holding (wpAny_bind ((SKd prog w).pyHash (k := xs.getD i Str.empty) (strKind_is _ _ _ _) ?_))
    refine wpAny_setAddHashed_of (knd := SKd prog w) (s := { s' with toks := s'.toks + 1 }) (strKind_is _ _ _ _) rfl hS' (by omega) fun h' hsb hS2 => ?_
    have hSi : h'.SetOf (SKd prog w) S (fun k' => (xs.take (i + 1)).any (· == k')) (i + 1) :=
      SetOf_congr hS2 (fun k' => (take_any_succ hlx k').symm) (by rw [take_any_new hnd hlx]; rfl)
    refine wpAny_pure ⟨plainId_quiet PyProof.Rows.F.plain_set_update_loop _, ih (i + 1) _ (by omega) hlt (W.frame _ s' _ _ hst' (Nat.le_succ _) fun b hb o e => ?_) hSi fun s'' hm'' hS'' => hR s'' (Moved.trans W.gtrans ((hm.mono hsub).then_heap (Nat.le_succ _) fun b o hb e => ?_) hm'') hS''⟩
    · exact (hsb.2 b fun z => hSf (by rw [← z]; exact hb)).trans e
    · exact (hsb.2 b fun z => hb (by rw [z]; exact List.mem_cons_self)).trans e
end
section
variable {prog : Program} {w : World} {A : Around} {E : Value → Shared → Prop} {s : Shared}
abbrev setNew (led : Bool) : Obj := { cls := .type "set", dict := none, data := .set #[] 0 (.fresh 0 0 led) }
set_option maxHeartbeats 6000000 in
theorem call_setL {l : Addr} {items : Array Value} {xs : List Str} {Q : Value → Shared → Prop} (hh : A.handled = none) (hl : s.heap.IsList l items) (hi : PyProof.Rows.StrsAre items.toList xs) (hnd : xs.Nodup) (hn1 : xs.length + 1 < scanBound)
    (h : ∀ (h' : Heap) (tk : Nat), h'.SetOf (SKd prog w) s.heap.objs.size (fun k' => (xs.take items.size).any (· == k')) items.size → (∀ b o, b < s.heap.objs.size → s.heap.get? b = some o → h'.get? b = some o) → Q (.ref s.heap.objs.size) { s with heap := h', toks := tk }) :
    wpAny (model prog w) A (call (.type "set") [.ref l]) Q E s := by
  obtain ⟨c, tl, hmro⟩ := PySem.F.called_set.mro
  have hmade := PySem.F.called_set.made
  have hsub := PySem.F.called_set.sub
  refine wpAny_call (codeAny_of_tree ?_)
  show wpAny _ _ (callAny (.type "set") _) _ _ _
  refine wpAny_pure ⟨Code.quiet_builtin _ (by decide +kernel), codeAny_builtin PySem.F.entry_type_call ?_⟩
  rw [Around.under_plain (weight_type_call_type "set" [.ref l] []) rfl]
  have h1 := PySem.F.called_set.notType
  have h2 := PySem.F.called_set.canCreate
  have hct := PySem.F.typeCall_set_1 (.ref l)
  repeat (any_goals (first | assumption | wp_step))
  refine codeAny_mono (code_set_new_1 (.ref l) (E := E) (Q₁ := fun obj s₁ => ∃ led : Bool, obj = .ref s.heap.objs.size ∧ s₁ = { s with heap := s.heap.push (setNew led) }) fun led => ⟨led, rfl, rfl⟩) fun r s₁ hr => ?_
  cases r with
  | error e => exact hr
  | ok fl =>
    cases fl with
    | ret obj =>
      obtain ⟨led, rfl, rfl⟩ := hr
      have hS : (s.heap.push (setNew led)).get? s.heap.objs.size = some (setNew led) := Heap.get?_push_size _ rfl
      have hT : Shared.TypeIs { s with heap := s.heap.push (setNew led) } (.ref s.heap.objs.size) "set" := ⟨_, hS, rfl⟩
      have hli := PySem.F.called_set.init.lookup
      have hbi := PySem.F.called_set.init.bind (.ref s.heap.objs.size)
      repeat (any_goals (first | assumption | wp_step))
      refine codeAny_mono (codeAny_call_builtin (R := wants (fun r s₂ => r = .none ∧ ∃ h' tk, s₂ = { s with heap := h', toks := tk } ∧ h'.SetOf (SKd prog w) s.heap.objs.size (fun k' => (xs.take items.size).any (· == k')) items.size ∧ (∀ b o, b < s.heap.objs.size → s.heap.get? b = some o → h'.get? b = some o)) E) PySem.F.called_set.init.plain PySem.F.entry_set_init (check_set_init_1 hT ?_)) fun r₂ s₂ hr₂ => ?_
      · obtain ⟨⟨ocls, odict, odata, oslots⟩, hol, hcl, nl, hdl⟩ := hl
        simp only at hcl hdl
        subst hcl; subst hdl
        have hol' : (s.heap.push (setNew led)).get? l = some { cls := .type "list", dict := odict, data := .seq items nl, slots := oslots } := Heap.get?_push_of_some _ hol
        have hsls := PySem.F.sub_list_set
        have hslf := PySem.F.sub_list_frozenset
        have hne : (Value.type "list" == Value.type "dict") = false := by decide
        have hl1 : (s.heap.push (setNew led)).IsList l items := ⟨_, hol', rfl, nl, rfl⟩
        unfold Builtin.«set.__init__» noKeywords Builtin.Frozenset.updateFrom
        generalize hPI : pyIter = PI
        wp_walk
        subst hPI
        refine wpAny_pyIter_list hl1 (wpAny_bind (wpAny_runValue ?_))
        have hlS : l < s.heap.objs.size := Heap.lt_size hol
        have hneI : l ≠ (s.heap.push (setNew led)).objs.size := by
          rw [Heap.size_push]; exact Nat.ne_of_lt (Nat.lt_succ_of_lt hlS)
        have hSf : s.heap.objs.size ∉ [(s.heap.push (setNew led)).objs.size, l] := by
          rw [Heap.size_push]; simp only [List.mem_cons, List.mem_singleton, List.not_mem_nil, or_false, not_or]
          exact ⟨Nat.ne_of_lt (Nat.lt_succ_self _), Nat.ne_of_gt hlS⟩
        have hsz : xs.length = items.size := by rw [← StrsAre.len_eq hi, Array.length_toList]
        refine upd_strs ((Walks.list (show A.in1.in1.in1.handled = none by simp [hh]) _ l hneI items).toS) s.heap.objs.size hSf xs hnd hsz (by rw [← hsz]; exact hn1) (fun i v hv => SS.strs_at hi i v (by rw [Array.getElem?_toList]; exact hv)) (items.size - 0) 0 _ (by omega) (Nat.zero_le _)
          ⟨⟨_, Heap.get?_push_size _ rfl, rfl, rfl⟩, (hl1.push _)⟩ ?hS0 ?hR
        case hS0 =>
          have hget : ((s.heap.push (setNew led)).push { cls := .type "list_iterator", data := .fields #[.ref l, .int 0 0] }).get? s.heap.objs.size = some (setNew led) := Heap.get?_push_of_some _ hS
          exact SetOf_congr ((setObjOf_fresh (knd := SKd prog w) led).setOf hget (by unfold scanBound; omega)) (fun _ => rfl) rfl
        case hR =>
          rintro ⟨h', g', d', tk', os'⟩ hm hS'
          obtain rfl : g' = s.gens := hm.gens
          obtain rfl : d' = s.drawn := hm.drawn
          obtain rfl : os' = s.os := hm.os
          refine wpAny_pure ?_
          show wpAny _ _ (ret Value.none) _ _ _
          refine wpAny_pure ⟨rfl, h', tk', rfl, hS', fun b o hb e => hm.heap b o ?_ (Heap.get?_push_of_some _ (Heap.get?_push_of_some _ e))⟩
          simp only [List.mem_cons, List.mem_singleton, List.not_mem_nil, or_false, not_or]
          exact ⟨Nat.ne_of_lt hb, by rw [Heap.size_push]; exact Nat.ne_of_lt (Nat.lt_succ_of_lt hb)⟩
      · cases r₂ with
        | error e => exact hr₂
        | ok fl₂ =>
          cases fl₂ with
          | ret r =>
            obtain ⟨rfl, h', tk, rfl, hS', hk'⟩ := hr₂
            repeat (any_goals (first | assumption | wp_step))
            exact h _ _ hS' hk'
          | _ => exact hr₂.elim
    | _ => exact hr.elim
set_option maxHeartbeats 6000000 in
theorem call_setT {l : Addr} {items : Array Value} {xs : List Str} {Q : Value → Shared → Prop} (hh : A.handled = none) (hl : s.heap.IsTuple l items) (hi : PyProof.Rows.StrsAre items.toList xs) (hnd : xs.Nodup) (hn1 : xs.length + 1 < scanBound)
    (h : ∀ (h' : Heap) (tk : Nat), h'.SetOf (SKd prog w) s.heap.objs.size (fun k' => (xs.take items.size).any (· == k')) items.size → (∀ b o, b < s.heap.objs.size → s.heap.get? b = some o → h'.get? b = some o) → Q (.ref s.heap.objs.size) { s with heap := h', toks := tk }) :
    wpAny (model prog w) A (call (.type "set") [.ref l]) Q E s := by
  obtain ⟨c, tl, hmro⟩ := PySem.F.called_set.mro
  have hmade := PySem.F.called_set.made
  have hsub := PySem.F.called_set.sub
  refine wpAny_call (codeAny_of_tree ?_)
  show wpAny _ _ (callAny (.type "set") _) _ _ _
  refine wpAny_pure ⟨Code.quiet_builtin _ (by decide +kernel), codeAny_builtin PySem.F.entry_type_call ?_⟩
  rw [Around.under_plain (weight_type_call_type "set" [.ref l] []) rfl]
  have h1 := PySem.F.called_set.notType
  have h2 := PySem.F.called_set.canCreate
  have hct := PySem.F.typeCall_set_1 (.ref l)
  repeat (any_goals (first | assumption | wp_step))
  refine codeAny_mono (code_set_new_1 (.ref l) (E := E) (Q₁ := fun obj s₁ => ∃ led : Bool, obj = .ref s.heap.objs.size ∧ s₁ = { s with heap := s.heap.push (setNew led) }) fun led => ⟨led, rfl, rfl⟩) fun r s₁ hr => ?_
  cases r with
  | error e => exact hr
  | ok fl =>
    cases fl with
    | ret obj =>
      obtain ⟨led, rfl, rfl⟩ := hr
      have hS : (s.heap.push (setNew led)).get? s.heap.objs.size = some (setNew led) := Heap.get?_push_size _ rfl
      have hT : Shared.TypeIs { s with heap := s.heap.push (setNew led) } (.ref s.heap.objs.size) "set" := ⟨_, hS, rfl⟩
      have hli := PySem.F.called_set.init.lookup
      have hbi := PySem.F.called_set.init.bind (.ref s.heap.objs.size)
      repeat (any_goals (first | assumption | wp_step))
      refine codeAny_mono (codeAny_call_builtin (R := wants (fun r s₂ => r = .none ∧ ∃ h' tk, s₂ = { s with heap := h', toks := tk } ∧ h'.SetOf (SKd prog w) s.heap.objs.size (fun k' => (xs.take items.size).any (· == k')) items.size ∧ (∀ b o, b < s.heap.objs.size → s.heap.get? b = some o → h'.get? b = some o)) E) PySem.F.called_set.init.plain PySem.F.entry_set_init (check_set_init_1 hT ?_)) fun r₂ s₂ hr₂ => ?_
      · obtain ⟨⟨ocls, odict, odata, oslots⟩, hol, hcl, nl, hdl⟩ := hl
        simp only at hcl hdl
        subst hcl; subst hdl
        have hol' : (s.heap.push (setNew led)).get? l = some { cls := .type "tuple", dict := odict, data := .seq items nl, slots := oslots } := Heap.get?_push_of_some _ hol
        have hsls := PySem.F.sub_tuple_set
        have hslf := PySem.F.sub_tuple_frozenset
        have hne : (Value.type "tuple" == Value.type "dict") = false := by decide
        have hl1 : (s.heap.push (setNew led)).IsTuple l items := ⟨_, hol', rfl, nl, rfl⟩
        unfold Builtin.«set.__init__» noKeywords Builtin.Frozenset.updateFrom
        generalize hPI : pyIter = PI
        wp_walk
        subst hPI
        refine wpAny_pyIter_tuple hl1 (wpAny_bind (wpAny_runValue ?_))
        have hlS : l < s.heap.objs.size := Heap.lt_size hol
        have hneI : l ≠ (s.heap.push (setNew led)).objs.size := by
          rw [Heap.size_push]; exact Nat.ne_of_lt (Nat.lt_succ_of_lt hlS)
        have hSf : s.heap.objs.size ∉ [(s.heap.push (setNew led)).objs.size, l] := by
          rw [Heap.size_push]; simp only [List.mem_cons, List.mem_singleton, List.not_mem_nil, or_false, not_or]
          exact ⟨Nat.ne_of_lt (Nat.lt_succ_self _), Nat.ne_of_gt hlS⟩
        have hsz : xs.length = items.size := by rw [← StrsAre.len_eq hi, Array.length_toList]
        refine upd_strs ((Walks.tuple (show A.in1.in1.in1.handled = none by simp [hh]) _ l hneI items).toS) s.heap.objs.size hSf xs hnd hsz (by rw [← hsz]; exact hn1) (fun i v hv => SS.strs_at hi i v (by rw [Array.getElem?_toList]; exact hv)) (items.size - 0) 0 _ (by omega) (Nat.zero_le _)
          ⟨⟨_, Heap.get?_push_size _ rfl, rfl, rfl⟩, (hl1.push _)⟩ ?hS0 ?hR
        case hS0 =>
          have hget : ((s.heap.push (setNew led)).push { cls := .type "tuple_iterator", data := .fields #[.ref l, .int 0 0] }).get? s.heap.objs.size = some (setNew led) := Heap.get?_push_of_some _ hS
          exact SetOf_congr ((setObjOf_fresh (knd := SKd prog w) led).setOf hget (by unfold scanBound; omega)) (fun _ => rfl) rfl
        case hR =>
          rintro ⟨h', g', d', tk', os'⟩ hm hS'
          obtain rfl : g' = s.gens := hm.gens
          obtain rfl : d' = s.drawn := hm.drawn
          obtain rfl : os' = s.os := hm.os
          refine wpAny_pure ?_
          show wpAny _ _ (ret Value.none) _ _ _
          refine wpAny_pure ⟨rfl, h', tk', rfl, hS', fun b o hb e => hm.heap b o ?_ (Heap.get?_push_of_some _ (Heap.get?_push_of_some _ e))⟩
          simp only [List.mem_cons, List.mem_singleton, List.not_mem_nil, or_false, not_or]
          exact ⟨Nat.ne_of_lt hb, by rw [Heap.size_push]; exact Nat.ne_of_lt (Nat.lt_succ_of_lt hb)⟩
      · cases r₂ with
        | error e => exact hr₂
        | ok fl₂ =>
          cases fl₂ with
          | ret r =>
            obtain ⟨rfl, h', tk, rfl, hS', hk'⟩ := hr₂
            repeat (any_goals (first | assumption | wp_step))
            exact h _ _ hS' hk'
          | _ => exact hr₂.elim
    | _ => exact hr.elim
end
def tLenU (K : PySem.W.Frag) (ta : TE) : TE := fun σ H Q => ta σ H fun x H1 => ∃ l, ∃ xs : List Str, x = .ref l ∧ (SqL K H1 l (xs.map V.str) ∨ SqT K H1 l (xs.map V.str)) ∧ xs.Nodup ∧ xs.length ≤ 4000 ∧ Q (.int xs.length) H1
theorem pe_lenU {X : Cx} {a : Expr} {ta : TE} {p p2 q pos : Pos} (hc : X.calm = true) (hg : Gl X "len") (hm : X.mg "len" = none) (hg2 : Gl X "set") (hm2 : X.mg "set" = none) (ha : PE X a ta)
    (na : starEach [a] X.env = (false, eval a X.env) :: starEach [] X.env) : PE X (.Call (.Name "len" p) [.Call (.Name "set" p2) [a] [] q] [] pos) (tLenU X.K ta) := by
  refine ⟨fun pins s σ H Q I h => Call_ (ld_blt I hg hm boot_len (PyProof.Rows.callWith_builtin1 (PyProof.Rows.args_cons (Call_ (ld_blt I hg2 hm2 boot_set ?_)) rfl) rfl rfl))⟩
  refine PyProof.Rows.callWith_type1 (PyProof.Rows.args_cons (thn (ha.run pins s σ H _ I h) fun v s1 ⟨x, H1, I1, r1, q1⟩ => PyProof.Rows.args_nil ?_) na) na rfl
  obtain ⟨l, xs, rfl, hq, hnd, h1, q1⟩ := q1
  cases r1
  have fin : ∀ (its : List Value), Vals (xs.map V.str) its → ∀ (h' : Heap) (tk : Nat), h'.SetOf (SKd X.prog X.w) s1.heap.objs.size (fun k' => (xs.take its.toArray.size).any (· == k')) its.toArray.size →
      (∀ b o, b < s1.heap.objs.size → s1.heap.get? b = some o → h'.get? b = some o) →
      wpAny (model X.prog X.w) X.A (spliced (backTo pos (starEach [] X.env))) (fun vs s₂ => wpAny (model X.prog X.w) X.A (call (.builtin "len") (Value.ref s1.heap.objs.size :: vs)) (EP X pins σ Q) X.xe s₂) X.xe { s1 with heap := h', toks := tk } := fun its r h' tk hS hk => by
    refine PyProof.Rows.args_nil ?_
    have hl : its.toArray.size = xs.length := by rw [List.size_toArray, ← r.length, List.length_map]
    rw [hl] at hS
    obtain ⟨o, es, ep, t, ho, hex, hd, _, _, _, hf, hn⟩ := hS
    have I2 : Inv X pins σ H1 { s1 with heap := h', toks := tk } := I1.kept fun b o e => hk b o (Heap.lt_size e) e
    refine call_len_set ho hex hd hf (by rw [hn]; omega) ⟨.int xs.length, H1, I2.tok _, ⟨_, by rw [hn]⟩, q1⟩
  have hb : xs.length + 1 < scanBound := by unfold scanBound; omega
  rcases hq with hq | hq
  · obtain ⟨its, r, pl, hz⟩ := I1.list hq
    exact call_setL (I1.ok.hd hc) pl.isList (by simpa using strsAre_of r) hnd hb fun h' tk hS hk => fin its r h' tk hS hk
  · obtain ⟨its, r, pl, hz⟩ := I1.tuple hq
    exact call_setT (I1.ok.hd hc) pl (by simpa using strsAre_of r) hnd hb fun h' tk hS hk => fin its r h' tk hS hk
section
variable {X : Cx} {sc : Scope} {N : List Str} {δ : DS} {μ : List M} {R : W → List M → Prop} {a : Expr} {p p2 q pos : Pos}
/-- len(set(texts)), all unlike -/
theorem x_lenU (G : GX X sc N) (hm : (moOf X).mg "len" = none) (hm2 : (moOf X).mg "set" = none) (h : WE X a δ μ fun w μ1 => ∃ xs : List Str, SeqW μ1 w (xs.map D.str) ∧ xs.Nodup ∧ xs.length ≤ 4000 ∧ R (.val (.int (xs.length : Int))) μ1) (hg : sc.names.lookup ("len" : Str) = some .globalImplicit := by rfl) (hg2 : sc.names.lookup ("set" : Str) = some .globalImplicit := by rfl)
    (na : starEach [a] X.env = (false, eval a X.env) :: starEach [] X.env := by rfl) : WE X (.Call (.Name "len" p) [.Call (.Name "set" p2) [a] [] q] [] pos) δ μ R :=
  .of (pe_lenU G.calm (G.gl hg) hm (G.gl hg2) hm2 pe_w na) fun G H A σ c s Q l => h G H A σ c s _ fun v w G1 H1 A1 μ1 s1 c1 r1 ⟨xs, sq, hnd, hz, h1⟩ => by
    obtain ⟨a, us, rfl, hq, rs⟩ := sq.at_ c1 r1
    obtain rfl := rs.strs
    exact ⟨a, xs, rfl, hq, hnd, hz, (l.step c1 s1).now (w := .val (.int xs.length)) c1 (Rep.int _) h1⟩
end
end DL
set_option Elab.async false
set_option linter.all false
set_option maxRecDepth 100000
set_option maxHeartbeats 4000000
/-! DLd: dict(pairs), list(d.items()), comprehensions with two clauses, of dicts. -/
namespace DL
open PySem PySem.Spec PyProof.Rows L2
open Evl (Ex)
/-! ### dict(pairs), tuples for keys -/
abbrev TKd (prog : Program) (w : World) := tupleKind (mixKind prog w)
def mergedT (acc more : List (List Key × Addr × Value)) : List (List Key × Addr × Value) := more.foldl (fun a p => storedH a p.1 p.2.1 p.2.2) acc
theorem key_stays {prog : Program} {w : World} {h h' : Heap} {ks : List Key} {a : Addr} (x : (TKd prog w).is h ks a) (k : ∀ o, h.get? a = some o → h'.get? a = some o) : (TKd prog w).is h' ks a := by
  obtain ⟨o, items, n, h1, h2⟩ := (show IsTupleKey (mixKind prog w) h ks a from x)
  exact ⟨o, items, n, k o h1, h2⟩
theorem stH_le (acc : List (List Key × Addr × Value)) (k : List Key) (a : Addr) (v : Value) : (storedH acc k a v).length ≤ acc.length + 1 := by
  unfold storedH
  split
  · rw [List.length_map]; omega
  · simp
theorem dictH_at {prog : Program} {w : World} {h h' : Heap} {S : Addr} {acc : List (List Key × Addr × Value)} (m : h.DictOfH (TKd prog w) S acc) (k : ∀ o, h.get? S = some o → h'.get? S = some o) (kk : ∀ x ∈ acc, ∀ o, h.get? x.2.1 = some o → h'.get? x.2.1 = some o) : h'.DictOfH (TKd prog w) S acc := by
  obtain ⟨o, es, ep, h1, h2, h3, h4, h5, h6⟩ := m
  exact ⟨o, es, ep, k o h1, h2, h3, h4, fun x hx => key_stays (h5 x hx) (kk x hx), h6⟩
theorem mem_stH {acc : List (List Key × Addr × Value)} {k : List Key} {a : Addr} {v : Value} {x : List Key × Addr × Value} (h : x ∈ storedH acc k a v) : x.2.1 = a ∨ ∃ y ∈ acc, x.2.1 = y.2.1 := by
  unfold storedH at h
  split at h
  · obtain ⟨y, hy, e⟩ := List.mem_map.mp h
    refine .inr ⟨y, hy, ?_⟩
    rw [← e]
    unfold putAt
    split <;> rfl
  · rcases List.mem_append.mp h with z | z
    · exact .inr ⟨x, z, rfl⟩
    · rw [List.mem_singleton.mp z]; exact .inl rfl
section
variable {prog : Program} {w : World} {A : Around} {E : Value → Shared → Prop}
theorem upd_pairsT {R : Result → Shared → Prop} {S I l : Addr} {items : Array Value} {res : Value} (hh : A.handled = none) (hu : A.units + 1 < cLine) (hlI : l ≠ I) (hSI : S ≠ I) (hSl : S ≠ l) :
    ∀ (rest : List (List Key × Addr × Value)) (i : Nat) (acc : List (List Key × Addr × Value)) (ix : Int) (t : Tok) (s : Shared), items.size = i + rest.length → acc.length + rest.length ≤ sizeLine → (∀ x ∈ acc, x.2.1 ≠ S ∧ x.2.1 ≠ I) →
      (∀ (j : Nat) (q : List Key × Addr × Value), rest[j]? = some q → ∃ b : Addr, items[i + j]? = some (.ref b) ∧ b ≠ S ∧ b ≠ I ∧ IsTup s.heap b #[.ref q.2.1, q.2.2] ∧ q.2.1 ≠ S ∧ q.2.1 ≠ I ∧ (TKd prog w).is s.heap q.1 q.2.1) →
      s.heap.IsListIter I l i → s.heap.IsList l items → s.heap.DictOfH (TKd prog w) S acc →
      (∀ h' tk, h'.DictOfH (TKd prog w) S (mergedT acc rest) → (∀ b o, b ≠ S → b ≠ I → s.heap.get? b = some o → h'.get? b = some o) → R (.ok (.ret res)) { s with heap := h', toks := tk }) →
      codeAny (model prog w) A (.builtin "dict.update.loop" ⟨[.ref S, .ref I, .int ix t, res], []⟩) R s
  | [], i, acc, ix, t, s, hsz, hln, ha, ht, hit, hl, hm, hR => by
    refine codeAny_builtin ud_entry ?_
    rw [Around.under_plainId ud_plain _]
    show wpAny _ A.in1 (pyNext (.ref I) >>= _) _ _ s
    refine wpAny_bind (wpAny_pyNext_list_end (A := A.in1) hh hit hl (by first | exact Array.getElem?_eq_none (Nat.le_of_eq hsz) | (simp at hsz; simp; omega)) fun h' he => ?_)
    show wpAny _ A.in1 (Builtin.Dict.addKeywords S [] >>= _) _ _ _
    refine wpAny_bind (wpAny_pure (wpAny_pure ?_))
    exact hR h' s.toks (dictH_at hm (fun o e => he S o hSI e) fun x hx o e => he _ o (ha x hx).2 e) fun b o _ hb e => he b o hb e
  | q :: rest, i, acc, ix, t, s, hsz, hln, ha, ht, hit, hl, hm, hR => by
    obtain ⟨b, hb, hbS, hbI, htup, hkS, hkI, hk⟩ := ht 0 q rfl
    rw [List.length_cons] at hsz hln
    refine codeAny_builtin ud_entry ?_
    rw [Around.under_plainId ud_plain _]
    show wpAny _ A.in1 (pyNext (.ref I) >>= _) _ _ s
    refine wpAny_bind (wpAny_pyNext_list_item (x := .ref b) hit hl (by simpa using hb) fun h1 hit1 hs1 => ?_)
    have ht1 : IsTup h1 b #[.ref q.2.1, q.2.2] := htup.extBut hs1.extBut hbI
    have hl1 : h1.IsList l items := hl.extBut hs1.extBut hlI
    have hm1 : h1.DictOfH (TKd prog w) S acc := dictH_at hm (fun o e => hs1.extBut S o hSI e) fun x hx o e => hs1.extBut _ o (ha x hx).2 e
    have hk1 : (TKd prog w).is h1 q.1 q.2.1 := key_stays hk fun o e => hs1.extBut _ o hkI e
    obtain ⟨o, ho, hc, n, hd⟩ := id ht1
    show wpAny _ A.in1 (holding [Value.ref b] _ >>= _) _ _ _
    refine wpAny_bind (wpAny_holding ?_)
    refine wpAny_bind (wpAny_tryCatch ?_)
    unfold Builtin.Dict.pairItems
    refine wpAny_bind (wpAny_typeOf (T := "tuple") ⟨o, ho, hc⟩ ?_)
    rw [if_pos (by first | decide | rfl | simp)]
    refine wpAny_bind (wpAny_seqItems ho hd (wpAny_pure ?_))
    show wpAny _ A.in1 (holding [.ref q.2.1, q.2.2] (dictSet S (.ref q.2.1) q.2.2)) _ _ _
    refine wpAny_holding (wpAny_dictSet_heap (knd := TKd prog w) (k := q.1) (tupleKind_room_in1 hu) hk1 hm1 (fun h2 hm2 hs2 => ?_) (by omega))
    refine wpAny_pure ⟨plainId_quiet ud_plain _, upd_pairsT (items := items) hh hu hlI hSI hSl rest (i + 1) (storedH acc q.1 q.2.1 q.2.2) (ix + 1) 0 _ (show items.size = i + 1 + rest.length by omega) ?_ (fun x hx => ?_) (fun j q' e => ?_) ?_ ?_ hm2 fun h' tk hd' k => ?_⟩
    · have z := stH_le acc q.1 q.2.1 q.2.2
      omega
    · rcases mem_stH hx with e | ⟨y, hy, e⟩
      · rw [e]; exact ⟨hkS, hkI⟩
      · rw [e]; exact ha y hy
    · obtain ⟨b', hb', hbS', hbI', htup', hkS', hkI', hk'⟩ := ht (j + 1) q' (by simpa using e)
      refine ⟨b', ?_, hbS', hbI', (htup'.extBut hs1.extBut hbI').extBut hs2.extBut hbS', hkS', hkI', key_stays hk' fun o e => hs2.extBut _ o hkS' (hs1.extBut _ o hkI' e)⟩
      rw [show i + 1 + j = i + (j + 1) by omega]
      exact hb'
    · exact hit1.at fun o' e => hs2.extBut I o' (Ne.symm hSI) e
    · exact hl1.extBut hs2.extBut (Ne.symm hSl)
    · exact hR h' tk hd' fun c oc h3 h4 e => k c oc h3 h4 (hs2.extBut c oc h3 (hs1.extBut c oc h4 e))
theorem call_dict_pairsT {s : Shared} {l : Addr} {ol : Obj} {items : Array Value} {n : Nat} {prs : List (List Key × Addr × Value)} {Q : Value → Shared → Prop} (hh : A.handled = none) (hu : A.units + 64 < cLine) (hl : s.heap.get? l = some ol) (hc : ol.cls = .type "list") (hd : ol.dict = none)
    (hdat : ol.data = .seq items n) (hsz : items.size = prs.length) (hln : prs.length ≤ sizeLine)
    (ht : ∀ (j : Nat) (q : List Key × Addr × Value), prs[j]? = some q → ∃ b : Addr, items[j]? = some (.ref b) ∧ IsTup s.heap b #[.ref q.2.1, q.2.2] ∧ (TKd prog w).is s.heap q.1 q.2.1)
    (h : ∀ h' tk, h'.DictOfH (TKd prog w) s.heap.objs.size (mergedT [] prs) → (∀ b o, s.heap.get? b = some o → h'.get? b = some o) → Q (.ref s.heap.objs.size) { s with heap := h', toks := tk }) :
    wpAny (model prog w) A (call (.type "dict") [.ref l]) Q E s := by
  refine callType_codes (Q₁ := fun obj s₁ => obj = .ref s.heap.objs.size ∧ s₁ = { s with heap := s.heap.push { cls := .type "dict", data := .dict #[] } }) PySem.F.kt_called_dict (PySem.F.kt_typeCall_dict_1 _) PySem.F.entry_dict_init (kt_code_dict_new _ ⟨rfl, rfl⟩) ?_
  rintro obj s₁ ⟨rfl, rfl⟩
  have hnew : (s.heap.push { cls := .type "dict", data := .dict #[] }).DictOfH (TKd prog w) s.heap.objs.size [] := Heap.DictOfH.new s.heap
  have k0 : ∀ b o, s.heap.get? b = some o → (s.heap.push { cls := .type "dict", data := .dict #[] }).get? b = some o := fun b o e => Heap.get?_push_of_some _ e
  refine ⟨hnew.typeIs, PySem.F.args_dict_init_2 _ _, ?_⟩
  unfold Builtin.«dict.__init__»
  refine wpAny_bind ?_
  unfold Builtin.Dict.selfAndRest
  refine wpAny_bind (wpAny_notOrdered_dict hnew.typeIs ?_)
  show wpAny _ _ (pure (s.heap.objs.size, [Value.ref l])) _ _ _
  refine wpAny_pure ?_
  show wpAny _ _ (Builtin.Dict.updateFrom "dict.__init__" s.heap.objs.size (.ref l) [] .none) _ _ _
  unfold Builtin.Dict.updateFrom
  refine wpAny_bind (wpAny_typeOf (T := "list") ⟨ol, k0 _ _ hl, hc⟩ ?_)
  rw [if_pos (by first | decide | rfl | simp)]
  refine wpAny_bind (miss_list (k0 _ _ hl) hc hdat hd hh fun h1 tk1 hk1 => ?_)
  rw [if_pos (show (none : Option Value).isNone = true from rfl)]
  refine wpAny_bind (wpAny_rule ?_)
  have hl1 : h1.IsList l items := ⟨ol, hk1 _ _ (k0 _ _ hl), hc, n, hdat⟩
  have hS1 : s.heap.objs.size < h1.objs.size := by
    have e : (s.heap.push { cls := .type "dict", data := .dict #[] }).get? s.heap.objs.size = some { cls := .type "dict", data := .dict #[] } := Heap.get?_push_size _ rfl
    exact Heap.lt_size (hk1 _ _ e)
  refine wpAny_bind (wpAny_pyIter_list hl1 ?_)
  have k2 : ∀ b o, h1.get? b = some o → (h1.push { cls := .type "list_iterator", data := .fields #[.ref l, .int 0 0] }).get? b = some o := fun b o e => Heap.get?_push_of_some _ e
  have hlt : l < s.heap.objs.size := Heap.lt_size hl
  have low : ∀ b o, s.heap.get? b = some o → b ≠ s.heap.objs.size ∧ b ≠ h1.objs.size := fun b o e => ⟨Nat.ne_of_lt (Heap.lt_size e), Nat.ne_of_lt (Nat.lt_trans (Heap.lt_size e) hS1)⟩
  have up : ∀ b o, s.heap.get? b = some o → (h1.push { cls := .type "list_iterator", data := .fields #[.ref l, .int 0 0] }).get? b = some o := fun b o e => k2 _ _ (hk1 _ _ (k0 _ _ e))
  have key := upd_pairsT (prog := prog) (w := w) (A := A.in1) (R := wants (fun r s₂ => r = .none ∧ Q (.ref s.heap.objs.size) s₂) E) (S := s.heap.objs.size) (I := h1.objs.size) (l := l) (items := items) (res := Value.none) hh (show A.units + 1 + 1 < cLine by omega)
    (Nat.ne_of_lt (Nat.lt_trans hlt hS1)) (Nat.ne_of_lt hS1) (Nat.ne_of_gt hlt) prs 0 [] 0 0
    { s with heap := h1.push { cls := .type "list_iterator", data := .fields #[.ref l, .int 0 0] }, toks := tk1 } (by rw [hsz, Nat.zero_add]) (by rw [List.length_nil, Nat.zero_add]; exact hln) (fun x hx => nomatch hx)
    (fun j q e => by
      obtain ⟨b, e1, e2, e3⟩ := ht j q e
      obtain ⟨ob, hob, _⟩ := id e2
      obtain ⟨ok, _, _, hok, _⟩ := (show IsTupleKey (mixKind prog w) s.heap q.1 q.2.1 from e3)
      exact ⟨b, by rw [Nat.zero_add]; exact e1, (low b ob hob).1, (low b ob hob).2, e2.keeps up, (low _ ok hok).1, (low _ ok hok).2, key_stays e3 fun o z => up _ o z⟩)
    ⟨_, Heap.get?_push_size _ rfl, rfl, rfl⟩ (hl1.at fun o e => k2 _ _ e) (dictH_at hnew (fun o e => k2 _ _ (hk1 _ _ e)) fun x hx => nomatch hx)
    (fun h' tk hd' k => ⟨rfl, h h' tk hd' fun b o e => k b o (low b o e).1 (low b o e).2 (up b o e)⟩)
  first
    | exact wpAny_pure ⟨plainId_quiet ud_plain _, key⟩
    | exact wpAny_bind (wpAny_pure (wpAny_pure ⟨plainId_quiet ud_plain _, key⟩))
end
def mergeT (kvs more : List (List Key × V)) : List (List Key × V) := more.foldl (fun acc kv => putK acc kv.1 kv.2) kvs
theorem kt_merge {H : Hp} : ∀ {more : List (List Key × V)} {rs : List (List Key × Addr × Value)} {kvs : List (List Key × V)} {vs : List (List Key × Addr × Value)}, KT H more rs → KT H kvs vs → KT H (mergeT kvs more) (mergedT vs rs) := by
  intro more rs kvs vs r
  unfold KT at r
  induction r generalizing kvs vs with
  | nil => intro q; exact q
  | @cons p q ps qs h t ih =>
    intro r0
    have e : KT H (putK kvs p.1 p.2) (storedH vs q.1 q.2.1 q.2.2) := by
      have := r0.put (b := q.2.1) p.1 h.2.1 h.2.2
      rw [← h.1]; exact this
    exact ih e
theorem length_mergeT : ∀ (more kvs : List (List Key × V)), (mergeT kvs more).length ≤ kvs.length + more.length
  | [], kvs => by show kvs.length ≤ kvs.length + 0; omega
  | p :: r, kvs => by
    have h1 := length_mergeT r (putK kvs p.1 p.2)
    have h2 := length_putK kvs p.1 p.2
    show (mergeT (putK kvs p.1 p.2) r).length ≤ _
    rw [List.length_cons]; omega
def PrT (K : PySem.W.Frag) (H : Hp) (p : Addr) (kv : List Key × V) : Prop := ∃ b, SqT K H p [.ref b, kv.2] ∧ H b = some (.tup (kv.1.map kV))
theorem pairsT_of {X : Cx} {pins : List (Addr × Obj)} {σ : L2.St} {H : Hp} {s : Shared} (I : Inv X pins σ H s) : ∀ {ps : List Addr} {kvs : List (List Key × V)}, Paired (PrT X.K H) ps kvs →
    ∃ prs : List (List Key × Addr × Value), KT H kvs prs ∧ prs.length = ps.length ∧ ∀ (j : Nat) (q : List Key × Addr × Value), prs[j]? = some q → ∃ b : Addr, ps[j]? = some b ∧ IsTup s.heap b #[.ref q.2.1, q.2.2] ∧ (TKd X.prog X.w).is s.heap q.1 q.2.1
  | _, _, .nil => ⟨[], .nil, rfl, fun j q e => by simp at e⟩
  | _, _, .cons (a := p) (b := kv) h t => by
    obtain ⟨prs, r, hl, hp⟩ := pairsT_of I t
    obtain ⟨b, hq, hb⟩ := h
    obtain ⟨its, rv, ht, _⟩ := I.tuple hq
    obtain ⟨u, y, ei, ru, ry⟩ := vals2 rv
    subst ei
    cases ru
    refine ⟨(kv.1, b, y) :: prs, .cons ⟨rfl, hb, ry⟩ r, by rw [List.length_cons, List.length_cons, hl], fun j q e => ?_⟩
    cases j with
    | zero =>
      have e' : (kv.1, b, y) = q := Option.some.inj e
      subst e'
      exact ⟨p, rfl, ht, key_of I.hok hb⟩
    | succ j =>
      obtain ⟨b', e1, e2, e3⟩ := hp j q (by simpa using e)
      exact ⟨b', by simpa using e1, e2, e3⟩
def rDictT (K : PySem.W.Frag) : List V → Hp → VK → Prop := fun xs H Q => ∃ (a : Addr) (ps : List Addr) (kvs : List (List Key × V)), xs = [.ref a] ∧ SqL K H a (ps.map V.ref) ∧ Paired (PrT K H) ps kvs ∧ ∀ p, H p = none → Q (.ref p) (upd H p (.dT (mergeT [] kvs)))
theorem cr_dictT {X : Cx} (hcalm : X.calm = true) (hu : X.A.units + 64 < cLine) : CallR X (.type "dict") (rDictT X.K) := by
  intro pins s σ H xs us Q I r q
  obtain ⟨a, ps, kvs, ex, hq, hp, q⟩ := q
  subst ex
  obtain ⟨u, eu, rx⟩ := vals1 r
  subst eu
  cases rx
  obtain ⟨its, rv, pl, hz⟩ := I.list hq
  have ei := refs_at rv
  subst ei
  rw [List.length_map] at hz
  obtain ⟨prs, rel, hl, hpr⟩ := pairsT_of I hp
  obtain ⟨o, n, ho, hc, hd, hdat⟩ := pl
  have hfr : H s.heap.objs.size = none := I.hok.fresh (Nat.le_refl _)
  refine call_dict_pairsT (prs := prs) (I.ok.hd hcalm) hu ho hc hd hdat (by simp [hl]) (by rw [hl]; exact hz) (fun j q' e => ?_) fun h' tk hd' k => ?_
  · obtain ⟨b, e1, e2, e3⟩ := hpr j q' e
    exact ⟨b, by simp [e1], e2, e3⟩
  · have hm : (s.heap.objs.size == sysModules) = false := beq_eq_false_iff_ne.mpr (Nat.ne_of_gt I.big)
    have hlen : (mergeT [] kvs).length ≤ sizeLine := by
      refine Nat.le_trans (length_mergeT kvs []) ?_
      rw [List.length_nil, Nat.zero_add, Paired.length rel, hl]
      exact hz
    obtain ⟨od, es, ep, h1, h2, h3, h4, _, h6⟩ := hd'
    have kt : KT (upd H s.heap.objs.size (.dT (mergeT [] kvs))) (mergeT [] kvs) (mergedT [] prs) := (kt_merge rel .nil).keeps fun b ys e => by
      rw [upd_ne (ne_of_none e hfr)]; exact e
    exact ⟨.ref s.heap.objs.size, upd H s.heap.objs.size (.dT (mergeT [] kvs)), I.laid (t' := tk) k (Nat.le_refl _) (show ObjOk X.prog X.w _ _ _ (.dT (mergeT [] kvs)) from ⟨hlen, hm, mergedT [] prs, kt, od, es, ep, h1, h2, h3, h4, h6⟩), rfl, q _ hfr⟩
theorem rp_mergeT {K : PySem.W.Frag} {G : Hp} : ∀ {more : List (List Key × V)} {ms : List (List Key × D)} {kvs : List (List Key × V)} {ds : List (List Key × D)}, RepP K G more ms → RepP K G kvs ds → RepP K G (mergeT kvs more) (kputs ds ms) := by
  intro more ms kvs ds r
  induction r generalizing kvs ds with
  | nil => intro q; exact q
  | @cons k v d vs ds' a b ih => intro q; exact ih (q.put k a)
section
variable {X : Cx} {sc : Scope} {N : List Str} {δ : DS} {μ : List M} {R : W → List M → Prop} {RB : Bool → List M → Prop} {a b e f : Expr} {pos p apos cpos : Pos} {k : Nat}
theorem reps_pairsT {K : PySem.W.Frag} {G H : Hp} (g : Ex G H) : ∀ {vs : List V} {ps : List (List Key × D)}, Reps K G vs (ps.map fun p => .tup [.tup (p.1.map DL.dK), p.2]) → ∃ (as : List Addr) (kvs : List (List Key × V)), vs = as.map V.ref ∧ Paired (PrT K H) as kvs ∧ RepP K G kvs ps
  | _, [], .nil => ⟨[], [], rfl, .nil, .nil⟩
  | _, p :: r, .cons h1 h2 => by
    obtain ⟨as, kvs, rfl, q1, q2⟩ := reps_pairsT g h2
    cases h1 with
    | @tup a0 vs0 _ q3 q4 =>
      cases q4 with
      | cons r1 r2 =>
        cases r2 with
        | cons r2 r3 =>
          cases r3
          cases r1 with
          | @tup b0 _ _ q5 q6 =>
            obtain rfl := reps_keys q6
            exact ⟨a0 :: as, (p.1, _) :: kvs, rfl, .cons ⟨b0, .inl (.inl (g _ _ q3)), g _ _ q5⟩ q1, .cons r2 q2⟩
theorem v_dictT {K : PySem.W.Frag} {w : W} {ps : List (List Key × D)} (s : LstW μ w (ps.map fun p => .tup [.tup (p.1.map DL.dK), p.2])) (h : R (.val (.dT (kputs [] ps))) μ) : RVL K (rDictT K) [w] μ R := fun G H A vs c r Q l => by
  obtain ⟨v, rfl, r1⟩ := rws1 r
  obtain ⟨q, us, rfl, hq, rs⟩ := s.at_ c r1
  obtain ⟨as, kvs, rfl, h1, h2⟩ := reps_pairsT c.gh rs
  refine ⟨q, as, kvs, rfl, hq, h1, fun t ht => ?_⟩
  obtain ⟨c1, s1⟩ := c.newG ht (.dT (mergeT [] kvs))
  exact l _ (.val (.dT (kputs [] ps))) _ _ _ _ s1 c1 (.dT upd_same ((rp_mergeT h2 .nil).t.mono s1.g)) h
theorem x_dictT (G : GX X sc N) (hr : Room k X.A) (hm : (moOf X).mg "dict" = none) (h : WE X e δ μ fun w μ1 => ∃ ps : List (List Key × D), LstW μ1 w (ps.map fun p => .tup [.tup (p.1.map DL.dK), p.2]) ∧ R (.val (.dT (kputs [] ps))) μ1) (hg : sc.names.lookup ("dict" : Str) = some .globalImplicit := by rfl) (hs : starEach [e] X.env = (false, eval e X.env) :: starEach [] X.env := by rfl) : WE X (.Call (.Name "dict" p) [e] [] pos) δ μ R :=
  x_T1 G (cr_dictT G.calm hr.units) hm (by decide +kernel) (h.mono fun _ _ ⟨ps, s, h⟩ => v_dictT s h) hg (hs := hs)
/-! dict(pairs), ints and texts for keys -/
theorem reps_pairsK {K : PySem.W.Frag} {G H : Hp} (g : Ex G H) : ∀ {vs : List V} {ps : List (Key × D)}, Reps K G vs (ps.map fun p => .tup [DL.dK p.1, p.2]) → ∃ (as : List Addr) (kvs : List (Key × V)), vs = as.map V.ref ∧ Paired (fun p kv => SqT K H p [kV kv.1, kv.2]) as kvs ∧ RepP K G kvs ps
  | _, [], .nil => ⟨[], [], rfl, .nil, .nil⟩
  | _, p :: r, .cons h1 h2 => by
    obtain ⟨as, kvs, rfl, q1, q2⟩ := reps_pairsK g h2
    cases h1 with
    | @tup a0 vs0 _ q3 q4 =>
      cases q4 with
      | cons r1 r2 =>
        cases r2 with
        | cons r2 r3 =>
          cases r3
          obtain rfl := rep_key r1
          exact ⟨a0 :: as, (p.1, _) :: kvs, rfl, .cons (.inl (.inl (g _ _ q3))) q1, .cons r2 q2⟩
abbrev rDictK (K : PySem.W.Frag) : List V → Hp → VK → Prop := fun xs H Q => ∃ (a : Addr) (ps : List Addr) (kvs : List (Key × V)), xs = [.ref a] ∧ SqL K H a (ps.map V.ref) ∧ Paired (fun p kv => SqT K H p [kV kv.1, kv.2]) ps kvs ∧ ∀ p, H p = none → Q (.ref p) (upd H p (.dK (mergeK [] kvs)))
theorem v_dictK {K : PySem.W.Frag} {w : W} {ps : List (Key × D)} (s : LstW μ w (ps.map fun p => .tup [DL.dK p.1, p.2])) (h : R (.val (.dK (kputs [] ps))) μ) : RVL K (rDictK K) [w] μ R := fun G H A vs c r Q l => by
  obtain ⟨v, rfl, r1⟩ := rws1 r
  obtain ⟨q, us, rfl, hq, rs⟩ := s.at_ c r1
  obtain ⟨as, kvs, rfl, h1, h2⟩ := reps_pairsK c.gh rs
  refine ⟨q, as, kvs, rfl, hq, h1, fun t ht => ?_⟩
  obtain ⟨c1, s1⟩ := c.newG ht (.dK (mergeK [] kvs))
  exact l _ (.val (.dK (kputs [] ps))) _ _ _ _ s1 c1 (.dK upd_same ((RepP.merge h2 .nil).k.mono s1.g)) h
theorem x_dictK (G : GX X sc N) (hm : (moOf X).mg "dict" = none) (h : WE X e δ μ fun w μ1 => ∃ ps : List (Key × D), LstW μ1 w (ps.map fun p => .tup [DL.dK p.1, p.2]) ∧ R (.val (.dK (kputs [] ps))) μ1) (hg : sc.names.lookup ("dict" : Str) = some .globalImplicit := by rfl) (hs : starEach [e] X.env = (false, eval e X.env) :: starEach [] X.env := by rfl) : WE X (.Call (.Name "dict" p) [e] [] pos) δ μ R :=
  x_T1 G (call_dictP G.calm) hm (by decide +kernel) (h.mono fun _ _ ⟨ps, s, h⟩ => v_dictK s h) hg (hs := hs)
end
end DL
set_option Elab.async false
set_option linter.all false
set_option maxRecDepth 100000
set_option maxHeartbeats 4000000
/-! DLe: list(d.items()), .index of a tuple, .get of the module's dict, two clauses, dict comprehensions. -/
namespace DL
open PySem PySem.Spec PyProof.Rows L2
open Evl (Ex)
section
variable {X : Cx} {sc : Scope} {N : List Str} {δ : DS} {μ : List M} {R : W → List M → Prop} {RB : Bool → List M → Prop} {a b e f : Expr} {pos p apos cpos : Pos} {k : Nat}
/-! ### list(d.items()) -/
def itemsD (ds : List (Key × D)) : List D := ds.map fun p => .tup [DL.dK p.1, p.2]
theorem reps_items {K : PySem.W.Frag} {G G2 : Hp} (g : Ex G G2) : ∀ {ts : List Addr} {kvs : List (Key × V)} {ds : List (Key × D)}, Paired (fun (t : Addr) (q : Key × V) => G2 t = some (.tup [kV q.1, q.2])) ts kvs → RepP K G kvs ds → Reps K G2 (ts.map V.ref) (itemsD ds)
  | _, _, _, .nil, .nil => .nil
  | _, _, _, .cons h t, .cons r q => .cons (.tup h (.cons (rep_keyR _) (.cons (r.mono g) .nil))) (reps_items g t q)
theorem x_items (G : GX X sc N) (hm : (moOf X).mg "list" = none) (h : WE X a δ μ fun w μ1 => ∃ ds, w = .val (.dK ds) ∧ R (.val (.lst (itemsD ds))) μ1) (hg : sc.names.lookup ("list" : Str) = some .globalImplicit := by rfl) (hbase : attributeBase a "items" X.env (eval a X.env) = eval a X.env := by rfl) (hline : (apos.endLine == cpos.line) = true := by rfl)
    (hs : starEach [.Call (.Attribute a "items" apos) [] [] cpos] X.env = (false, eval (.Call (.Attribute a "items" apos) [] [] cpos) X.env) :: starEach [] X.env := by rfl) : WE X (.Call (.Name "list" p) [.Call (.Attribute a "items" apos) [] [] cpos] [] pos) δ μ R :=
  .of (LiI.pe_listItems G.calm pe_w (G.gl hg) hm (by decide +kernel) hbase hline hs) fun G0 H A σ c s Q l => h G0 H A σ c s _ fun v w G1 H1 A1 μ1 s1 c1 r1 ⟨ds, e, h1⟩ => by
    subst e
    cases r1 with
    | @dK d kvs _ q1 q2 =>
      refine ⟨d, kvs, rfl, c1.gh _ _ q1, fun H' p ts hk hp hts hpt hL hP => ?_⟩
      have l1 := l.step c1 s1
      have hin : ∀ x, (x = p ∨ x ∈ ts) → H1 x = none := fun x hx => by
        rcases hx with z | z
        · rw [z]; exact hp
        · exact hts x z
      have eg : Ex G1 (fun x => if x = p ∨ x ∈ ts then H' x else G1 x) := fun x u hx => by
        show (if x = p ∨ x ∈ ts then H' x else G1 x) = some u
        by_cases hx2 : x = p ∨ x ∈ ts
        · have := c1.gh x u hx
          rw [hin x hx2] at this; cases this
        · rw [if_neg hx2]; exact hx
      have pe2 : Paired (fun (t : Addr) (q : Key × V) => (fun x => if x = p ∨ x ∈ ts then H' x else G1 x) t = some (.tup [kV q.1, q.2])) ts kvs := by
        have : ∀ {as : List Addr} {qs : List (Key × V)}, Paired (fun (t : Addr) (q : Key × V) => H' t = some (.tup [kV q.1, q.2])) as qs → (∀ t ∈ as, t ∈ ts) → Paired (fun (t : Addr) (q : Key × V) => (if t = p ∨ t ∈ ts then H' t else G1 t) = some (.tup [kV q.1, q.2])) as qs := by
          intro as qs hh
          induction hh with
          | nil => intro _; exact .nil
          | cons z t ih => intro hm; exact .cons (by rw [if_pos (.inr (hm _ List.mem_cons_self))]; exact z) (ih fun x hx => hm x (List.mem_cons_of_mem _ hx))
        exact this hP fun _ h => h
      refine l1 _ (.val (.lst (itemsD ds))) (fun x => if x = p ∨ x ∈ ts then H' x else G1 x) H' A1 μ1 ⟨eg, fun x u hx _ => hk x u hx, ⟨[], by simp, fun _ h => nomatch h⟩, fun x u hx => ?_⟩ ⟨fun x u hx => ?_, c1.len, fun j x m e1 e2 => ?_, c1.nd, fun x hx => ?_⟩ ?_ h1
      · by_cases hx2 : x = p ∨ x ∈ ts
        · exact .inr (hin x hx2)
        · have hx' : (if x = p ∨ x ∈ ts then H' x else G1 x) = some u := hx
          rw [if_neg hx2] at hx'; exact .inl hx'
      · have hx' : (if x = p ∨ x ∈ ts then H' x else G1 x) = some u := hx
        by_cases hx2 : x = p ∨ x ∈ ts
        · rw [if_pos hx2] at hx'; exact hx'
        · rw [if_neg hx2] at hx'; exact hk x u (c1.gh x u hx')
      · obtain ⟨u, q3, q4⟩ := c1.mem j x m e1 e2
        exact ⟨u, hk x u q3, q4.mono eg⟩
      · show (if x = p ∨ x ∈ ts then H' x else G1 x) = none
        by_cases hx2 : x = p ∨ x ∈ ts
        · obtain ⟨j, hj, ej⟩ := List.getElem_of_mem hx
          obtain ⟨u, q3, _⟩ := c1.mem j x (μ1[j]'(by rw [← c1.len]; exact hj)) (by rw [List.getElem?_eq_getElem hj, ej]) (List.getElem?_eq_getElem _)
          rw [hin x hx2] at q3; cases q3
        · rw [if_neg hx2]; exact c1.ga x hx
      · refine Rep.lst (by show (if p = p ∨ p ∈ ts then H' p else G1 p) = _; rw [if_pos (.inl rfl)]; exact hL) (reps_items eg pe2 q2.p)
/-! ### t.index(text) -/
def tTIx (K : PySem.W.Frag) (r : V → List V → Hp → VK → Prop) (to : TE) (t : TA) : TE := fun σ H Q => to σ H fun x H1 => (∃ p o u, x = .ref p ∧ o.cls = .type "tuple" ∧ o.dict = none ∧ H1 p = some (.frz o u)) ∧ t σ H1 fun xs H2 => r x xs H2 Q
theorem pe_tidx {to : TE} {t : TA} {r : V → List V → Hp → VK → Prop} (hm : MtR X "tuple.index" r) (ho : PE X a to) (ha : PA X [e] t) (hbase : attributeBase a "index" X.env (eval a X.env) = eval a X.env)
    (hfew : ((backTo cpos (starEach [e] X.env)).all (fun x => !x.1) && (backToKw cpos (keywordEach [] X.env)).all (fun x => x.1.isSome) && decide (([e] : List Expr).length + ([] : List Keyword).length + (if ([] : List Keyword).isEmpty then 0 else 1) < 30)) = true)
    (hline : (apos.endLine == cpos.line) = true) (hs : starEach [e] X.env = (false, eval e X.env) :: starEach [] X.env) : PE X (.Call (.Attribute a "index" apos) [e] [] cpos) (tTIx X.K r to t) := by
  refine ⟨fun pins s σ H Q I h => ?_⟩
  refine wpAny_Call_method_late hbase hfew hline rfl (thn (ho.run pins s σ H _ I h) fun v s1 ⟨x, H1, I1, r1, ty, q1⟩ => ?_)
  obtain ⟨p, o, u, rfl, hc, hd, hH⟩ := ty
  cases r1
  have hob : s1.heap.get? p = some o := (show ObjOk X.prog X.w H1 s1.heap p (.frz o u) from I1.hok p _ hH).1
  refine ⟨"tuple", _, F.plainAttrs_tuple, F.slot_tuple_index, F.type_tuple_index, ⟨o, hob, hc⟩, fun q eq => ?_, ?_⟩
  · cases eq
    exact ⟨o, hob, hd⟩
  · have hA := ha.run cpos pins s1 σ H1 _ I1 q1
    rw [hs] at hA ⊢
    refine Calls.callWith_builtin (by rfl) (Calls.evalArgs_plain ?_)
    exact thn hA fun us s2 ⟨vs, H2, I2, r2, q2⟩ => hm pins s2 σ H2 (.ref p) vs (.ref p) us Q I2 rfl r2 q2
theorem x_index (h : WE X a δ μ fun w μ1 => ∃ ys : List Str, w = .val (.tux (ys.map D.str)) ∧ WE X e δ μ1 fun wy μ2 => ∃ (z : Str) (j : Nat), wy = .val (.str z) ∧ ys[j]? = some z ∧ (∀ m, m < j → ys[m]? ≠ some z) ∧ R (.val (.int (j : Int))) μ2) (hbase : attributeBase a "index" X.env (eval a X.env) = eval a X.env := by rfl)
    (hfew : ((backTo cpos (starEach [e] X.env)).all (fun x => !x.1) && (backToKw cpos (keywordEach [] X.env)).all (fun x => x.1.isSome) && decide (([e] : List Expr).length + ([] : List Keyword).length + (if ([] : List Keyword).isEmpty then 0 else 1) < 30)) = true := by rfl)
    (hline : (apos.endLine == cpos.line) = true := by rfl) (hs : starEach [e] X.env = (false, eval e X.env) :: starEach [] X.env := by rfl) : WE X (.Call (.Attribute a "index" apos) [e] [] cpos) δ μ R :=
  .of (pe_tidx mt_tup_index pe_w pa_w hbase hfew hline hs) fun G H A σ c s Q l => h G H A σ c s _ fun v w G1 H1 A1 μ1 s1 c1 r1 ⟨ys, e1, h1⟩ => by
    subst e1
    cases r1 with
    | @tux q o us _ q1 q2 q3 q4 =>
      obtain rfl := q4.strs
      refine ⟨⟨q, o, _, rfl, q2, q3, c1.gh _ _ q1⟩, ?_⟩
      refine (wa1 (RL := fun ws μ2 => ∃ (z : Str) (j : Nat), ws = [.val (.str z)] ∧ ys[j]? = some z ∧ (∀ m, m < j → ys[m]? ≠ some z) ∧ R (.val (.int (j : Int))) μ2) (h1.mono fun wy μ2 ⟨z, j, e2, h2⟩ => ⟨z, j, by rw [e2], h2⟩) hs) G1 H1 A1 σ c1 (s.step s1) _ fun vs ws G2 H2 A2 μ2 s2 c2 r2 ⟨z, j, e2, h2, h3, h4⟩ => ?_
      subst e2
      obtain ⟨v, rfl, rz⟩ := rws1 r2
      cases rz
      exact ⟨q, ys, z, j, rfl, rfl, .inl (.inr ⟨o, c2.gh _ _ (s2.g _ _ q1)⟩), h2, h3, ((l.step c1 s1).step c2 s2).now (w := .val (.int (j : Int))) c2 (Rep.int _) h4⟩
/-! ### D.get(k, x) of the module's dict D -/
def tGGet (K : PySem.W.Frag) (w : World) (d : Addr) (te tx : TE) : TE := fun σ H Q => te σ H fun y H1 => tx σ H1 fun z H2 => ∃ x v, y = .str x ∧ KDct K w d x v ∧ Q v H2
theorem pe_gget {te tx : TE} {D : Str} {d : Addr} {q : Pos} (hg : Gl X D) (hmD : X.mg D = some (.ref d)) (hd : (d == sysModules) = false) (hD : ∃ es n, X.K.lookup d = some ⟨.type "dict", none, .dict es n, #[]⟩) (he : PE X e te) (hf : PE X f tx) (m : M2 X (.Name D q) "get" apos e f cpos) (hdb : (D == ("__debug__" : Str)) = false) :
    PE X (.Call (.Attribute (.Name D q) "get" apos) [e, f] [] cpos) (tGGet X.K X.w d te tx) := by
  refine ⟨fun pins s σ H Q I h => ?_⟩
  obtain ⟨es0, n0, hl0⟩ := hD
  refine wpAny_Call_method m.base m.few m.line PySem.F.plainAttrs_dict PySem.F.slot_dict_get PySem.F.type_dict_get (ld_glob I hg hmD ⟨⟨_, I.kIn d _ hl0, rfl⟩, fun b z => by cases z; exact ⟨_, I.kIn d _ hl0, rfl⟩, ?_⟩ hdb)
  rw [m.trees]
  refine Calls.callWith_builtin rfl (Calls.evalArgs_plain (Calls.spliced_cons (thn (he.run pins s σ H _ I h) fun iv s2 ⟨y, H1, I1, ry, q1⟩ => Calls.spliced_cons (thn (hf.run pins s2 σ H1 _ I1 q1) fun fv s3 ⟨z, H2, I2, rz, x, v, ex, ⟨es, n, u, hl, hk, e1, ru⟩, q2⟩ => Calls.spliced_nil ?_))))
  subst ex
  obtain ⟨t, rfl⟩ := ry
  have hm := PySem.W.mapOf_K (prog := X.prog) (w := X.w) I2.kIn hl hk
  refine call_meetsIn PySem.F.slot_dict_get hm.typeIs PySem.F.entry_dict_get (PySem.F.args_dict_get_3 _ _ _) (meets_dict_get_default (PySem.strKind X.prog X.w) d (strKind_is X.prog X.w x t) hd fv) ⟨_, hm, ?_⟩
  rw [PySem.W.find_K hl e1]
  exact ⟨v, H2, I2.tok _, ru, q2⟩
/-- the module's dict D, read at x -/
structure GDict (m : Mo) (D : Str) (x : Str) (v : V) : Prop where
  at_ : ∃ d, m.mg D = some (.ref d) ∧ (d == sysModules) = false ∧ (∃ es n, m.K.lookup d = some ⟨.type "dict", none, .dict es n, #[]⟩) ∧ KDct m.K m.w d x v
theorem x_gget (G : GX X sc N) {D : Str} {q : Pos} {x : Str} {v : V} {dv : DL.D} (T : GDict (moOf X) D x v) (hv : ∀ G, Rep X.K G v dv) (h : WE X e δ μ fun wy μ1 => WE X f δ μ1 fun _ μ2 => wy = .val (.str x) ∧ R (.val dv) μ2) (hg : sc.names.lookup D = some .globalImplicit := by rfl) (m : M2 X (.Name D q) "get" apos e f cpos := by exact ⟨rfl, rfl, rfl, rfl⟩) (hdb : (D == ("__debug__" : Str)) = false := by decide) :
    WE X (.Call (.Attribute (.Name D q) "get" apos) [e, f] [] cpos) δ μ R := by
  obtain ⟨d, h1, h2, h3, h4⟩ := T.at_
  exact .of (pe_gget (G.gl hg) h1 h2 h3 pe_w pe_w m hdb) fun G0 H A σ c s Q l => h G0 H A σ c s _ fun y wy G1 H1 A1 μ1 s1 c1 r1 h5 => h5 G1 H1 A1 σ c1 (s.step s1) _ fun z wz G2 H2 A2 μ2 s2 c2 r2 ⟨e1, h6⟩ => by
    subst e1
    cases r1
    exact ⟨x, v, rfl, h4, ((l.step c1 s1).step c2 s2).now (w := .val dv) c2 (hv _) h6⟩
end
/-! ### two clauses -/
section
variable {K : PySem.W.Frag} {δ : DS} {μ : List M} {ti ti1 : TI} {g g1 : TG} {te : TE} {RW : W → List M → Prop}
theorem wipe_wipe (vs : List Nat) (σ : L2.St) : L2.wipe (L2.wipe σ vs) vs = L2.wipe σ vs := by
  have inn : ∀ (us : List Nat) (τ : L2.St), ∀ u ∈ us, (L2.wipe τ us).set u none = L2.wipe τ us := by
    intro us
    induction us with
    | nil => intro τ u hu; cases hu
    | cons z r ih =>
      intro τ u hu
      show ((L2.wipe τ r).set z none).set u none = (L2.wipe τ r).set z none
      by_cases e : u = z
      · subst e; rw [List.set_set]
      · rw [List.set_comm _ _ (Ne.symm e), ih τ u ((List.mem_cons.mp hu).resolve_left e)]
  have ap : ∀ (us : List Nat) (τ : L2.St), (∀ u ∈ us, τ.set u none = τ) → L2.wipe τ us = τ := by
    intro us
    induction us with
    | nil => intro τ _; rfl
    | cons u r ih =>
      intro τ h
      show (L2.wipe τ r).set u none = τ
      rw [ih τ fun z hz => h z (List.mem_cons_of_mem _ hz)]
      exact h u List.mem_cons_self
  exact ap vs _ (inn vs σ)
theorem flatMap_len {α β : Type} {f : α → List β} {B : Nat} : ∀ {xs : List α}, (∀ x ∈ xs, (f x).length ≤ B) → (xs.flatMap f).length ≤ xs.length * B
  | [], _ => by simp
  | x :: r, h => by
    rw [List.flatMap_cons, List.length_append, List.length_cons, Nat.succ_mul]
    have h1 := h x List.mem_cons_self
    have h2 := flatMap_len (xs := r) fun y hy => h y (List.mem_cons_of_mem _ hy)
    omega
theorem set_last {μ : List M} {m m' : M} : (μ ++ [m]).set μ.length m' = μ ++ [m'] := by
  rw [List.set_append_right _ _ (Nat.le_refl _)]
  simp
theorem at_last {μ : List M} {m : M} : (μ ++ [m])[μ.length]? = some m := by simp
theorem ev_lc2 {vs vs1 : List Nat} (o : Bool) (h : EvI K ti δ μ fun xs keep μ1 => (∀ μ', keep μ') ∧ ∃ (F : D → List D) (B : Nat), xs.length * B ≤ 40000 ∧ (∀ x ∈ xs, (F x).length ≤ B) ∧
      (∀ (i : Nat) (d : D), xs[i]? = some d → ∀ μ', EvC K g vs (.val d) (wipeD δ vs) μ' fun δ2 μ2 => μ2 = μ' ∧ EvI K ti1 δ2 μ' fun ys keep1 μ3 => μ3 = μ' ∧ (∀ μ'', keep1 μ'') ∧ ∃ f : D → D, F d = ys.map f ∧
        ∀ (j : Nat) (e : D), ys[j]? = some e → ∀ μ', EvC K g1 vs1 (.val e) (wipeD δ2 vs1) μ' fun δ3 μ4 => μ4 = μ' ∧ EvE K te δ3 μ' fun w μ5 => w = .val (f e) ∧ μ5 = μ') ∧ mkL o RW (xs.flatMap F) μ1) : EvE K (tLc2 ti g tYes ti1 g1 tYes te vs vs1) δ μ RW := fun G H A σ c s Q l => by
  refine h G H A σ c s _ fun J xs keep G1 H1 A1 μ1 s1 c1 hJ ⟨hk, F, B, hz, hB, ht, he⟩ L hL => ?_
  obtain ⟨Gd, Y, wk, hg, hy⟩ := hJ
  have l1 := lnk_ret c1 (l.step c1 s1)
  obtain ⟨c0, s0⟩ := c1.newA hL (o := .lst []) (m := .ml []) ⟨[], rfl, .nil⟩
  have hlen : ∀ i, ((xs.take i).flatMap F).length ≤ 40000 := fun i => by
    have := flatMap_len (B := B) (xs := xs.take i) fun x hx => hB x (List.mem_of_mem_take hx)
    have h2 : (xs.take i).length * B ≤ xs.length * B := Nat.mul_le_mul_right _ (by rw [List.length_take]; omega)
    omega
  have atL : ∀ {G' H' A'}, Step G1 (upd H1 L (.lst [])) (A1 ++ [L]) G' H' A' → A'[μ1.length]? = some L := fun st => by
    obtain ⟨t, e, _⟩ := st.a
    rw [e, ← c1.len]
    simp
  refine ⟨fun i m H' => m = xs.length - i ∧ i ≤ xs.length ∧ ∃ G' A', Step G1 (upd H1 L (.lst [])) (A1 ++ [L]) G' H' A' ∧ Con K G' H' A' (μ1 ++ [.ml ((xs.take i).flatMap F)]), ⟨xs.length, by simp, Nat.zero_le _, G1, A1 ++ [L], Step.refl, c0⟩, ?_⟩
  rintro i m H' ⟨rfl, hi, G', A', st, c'⟩
  have stt := s0.trans c0 st
  have q := hg G' H' A' _ stt c' (hk _)
  by_cases hlt : i < xs.length
  case neg =>
    have e : i = xs.length := by omega
    subst e
    rw [List.take_length] at c'
    refine .inl ⟨wk.stops H' q, l1 (.ref L) (.own μ1.length) G' H' A' _ stt c' ⟨L, atL st, rfl⟩ ?_⟩
    show (if μ1.length < μ1.length then _ else _)
    rw [if_neg (Nat.lt_irrefl _)]
    refine ⟨.ml (xs.flatMap F), at_last, ?_⟩
    rw [List.take_left']
    · cases o with
      | true => exact .inr he
      | false => exact .inl he
    · rfl
  refine .inr ⟨wk.goes i H' hlt q, fun H'' => ∃ G' A', Step G1 (upd H1 L (.lst [])) (A1 ++ [L]) G' H'' A' ∧ Con K G' H'' A' (μ1 ++ [.ml ((xs.take (i + 1)).flatMap F)]), fun H'' hN => ⟨xs.length - (i + 1), by omega, rfl, hlt, hN⟩, fun x H2 y => ?_⟩
  have hx : xs[i]? = some xs[i] := List.getElem?_eq_getElem hlt
  obtain ⟨G2, s2, c2, r2⟩ := hy i _ G' H' A' _ x H2 hx stt c' (hk _) (wk.yields i H' x H2 hlt q y)
  have st2 := st.trans c' s2
  refine ht i _ hx _ G2 H2 A' (L2.wipe σ vs) x c2 (((s.step s1).step (stt.trans c' s2)).wipe vs) r2 _ fun σ3 δ3 G3 H3 A3 μ3 e3 s3 c3 r3 ⟨em, h3⟩ => ?_
  subst em
  refine ⟨e3.trans (wipe_wipe vs σ), ?_⟩
  have st3 := st2.trans c2 s3
  dsimp only [tYes]
  try rw [if_pos rfl]
  refine h3 G3 H3 A3 σ3 c3 r3 _ fun J1 ys keep1 G4 H4 A4 μ4 s4 c4 hJ1 ⟨em4, hk1, f, hF, ht1⟩ => ?_
  subst em4
  obtain ⟨Gd1, Y1, wk1, hg1, hy1⟩ := hJ1
  have st4 := st3.trans c3 s4
  refine ⟨fun j m H' => m = ys.length - j ∧ j ≤ ys.length ∧ ∃ G' A', Step G4 H4 A4 G' H' A' ∧ Con K G' H' A' (μ1 ++ [.ml ((xs.take i).flatMap F ++ (ys.take j).map f)]) ∧ Step G1 (upd H1 L (.lst [])) (A1 ++ [L]) G' H' A', ⟨ys.length, by simp, Nat.zero_le _, G4, A4, Step.refl, by simpa using c4, st4⟩, ?_⟩
  rintro j m' H5 ⟨rfl, hj, G5, A5, st5, c5, sb5⟩
  have q1 := hg1 G5 H5 A5 _ st5 c5 (hk1 _)
  by_cases hlt1 : j < ys.length
  case neg =>
    have e : j = ys.length := by omega
    subst e
    refine .inl ⟨wk1.stops H5 q1, G5, A5, sb5, ?_⟩
    rw [getElem?_take_succ hx, List.flatMap_append]
    rw [List.take_length] at c5
    simpa [hF] using c5
  refine .inr ⟨wk1.goes j H5 hlt1 q1, fun H'' => ∃ G' A', Step G4 H4 A4 G' H'' A' ∧ Con K G' H'' A' (μ1 ++ [.ml ((xs.take i).flatMap F ++ (ys.take (j + 1)).map f)]) ∧ Step G1 (upd H1 L (.lst [])) (A1 ++ [L]) G' H'' A', fun H'' hN => ⟨ys.length - (j + 1), by omega, rfl, hlt1, hN⟩, fun x1 H6 y1 => ?_⟩
  have hx1 : ys[j]? = some ys[j] := List.getElem?_eq_getElem hlt1
  obtain ⟨G6, s6, c6, r6⟩ := hy1 j _ G5 H5 A5 _ x1 H6 hx1 st5 c5 (hk1 _) (wk1.yields j H5 x1 H6 hlt1 q1 y1)
  have st6 := st5.trans c5 s6
  refine ht1 j _ hx1 _ G6 H6 A5 (L2.wipe σ3 vs1) x1 c6 (((r3.step s4).step st6).wipe vs1) r6 _ fun σ7 δ7 G7 H7 A7 μ7 e7 s7 c7 r7 ⟨em7, h7⟩ => ?_
  subst em7
  refine ⟨e7.trans (wipe_wipe vs1 σ3), ?_⟩
  dsimp only
  try rw [if_pos rfl]
  refine h7 G7 H7 A7 σ7 c7 r7 _ fun v8 w8 G8 H8 A8 μ8 s8 c8 r8 ⟨ew, em8⟩ => ?_
  subst ew em8
  have l8 : ((xs.take i).flatMap F ++ (ys.take j).map f).length ≤ 40000 := by
    have := hlen (i + 1)
    rw [getElem?_take_succ hx, List.flatMap_append, List.length_append] at this
    rw [List.length_append, List.length_map, List.length_take]
    have hB' : ([xs[i]].flatMap F).length = ys.length := by simp [hF]
    omega
  have sA := ((st6.trans c6 s7).trans c7 s8)
  have sB := ((((sb5.trans c5 s6).trans c6 s7).trans c7 s8))
  have hA8 := atL sB
  obtain ⟨oo, hH8, vals, rfl, rv⟩ := c8.mem μ1.length L _ hA8 at_last
  obtain ⟨c9, s9⟩ := c8.put hA8 (o := .lst (vals ++ [v8])) (m := .ml ((xs.take i).flatMap F ++ (ys.take j).map f ++ [f ys[j]])) ⟨_, rfl, rv.append (.one r8)⟩
  refine ⟨vals, hH8, Evl.sz_lt (by rw [rv.length]; omega), G8, A8, sA.trans c8 s9, ?_, sB.trans c8 s9⟩
  rw [set_last] at c9
  rw [getElem?_take_succ hx1, List.map_append, ← List.append_assoc]
  exact c9
end
section
variable {X : Cx} {sc : Scope} {N : List Str} {δ : DS} {μ : List M} {R : W → List M → Prop} {elt tg iter tg1 iter1 kx vx : Expr} {scope : Scope} {pos p : Pos}
def bI (X : Cx) (scope : Scope) (tg iter : Expr) : TI := fun σ H Q => ∀ b : Bk, wI (bkX X scope b) tg iter σ H Q
theorem bI_ev {R : List D → (List M → Prop) → List M → Prop} (h : ∀ b, WI (bkX X scope b) tg iter δ μ R) : EvI X.K (bI X scope tg iter) δ μ R := fun G H A σ c s Q l b => h b G H A σ c s Q l
/-- name = [elt for .. in .. for .. in ..] -/
theorem s_setLc2 {DD : DE} (G : GX X sc N) (own : List (Str × Nat)) (vs1 : List Nat) (o : Bool) (i : Nat) {y : Str} {py spos : Pos} (h : WI X tg iter δ μ fun xs keep μ1 => (∀ μ', keep μ') ∧ ∃ (F : D → List D) (B : Nat), xs.length * B ≤ 40000 ∧ (∀ x ∈ xs, (F x).length ≤ B) ∧
      (∀ (i : Nat) (d : D), xs[i]? = some d → ∀ μ' b, WC (bkX X scope b) tg (own.map (·.2)) (.val d) (wipeD δ (own.map (·.2))) μ' fun δ2 μ2 => μ2 = μ' ∧ ∀ b, WI (bkX X scope b) tg1 iter1 δ2 μ' fun ys keep1 μ3 => μ3 = μ' ∧ (∀ μ'', keep1 μ'') ∧ ∃ f : D → D, F d = ys.map f ∧
        ∀ (j : Nat) (e : D), ys[j]? = some e → ∀ μ' b, WC (bkX X scope b) tg1 vs1 (.val e) (wipeD δ2 vs1) μ' fun δ3 μ4 => μ4 = μ' ∧ ∀ b, WE (bkX X scope b) elt δ3 μ' fun w μ5 => w = .val (f e) ∧ μ5 = μ') ∧ mkL o (fun w μ1 => DD.nx (δ.set i (some w)) μ1) (xs.flatMap F) μ1)
    (ok : blkC N sc scope own = true := by decide +kernel) (hv : ∀ i ∈ vs1, i ∈ own.map (·.2) := by decide) (hN : N[i]? = some y := by rfl) (hy : sc.names.lookup y = some .local := by rfl)
    (hl : (py.line == pos.line) = true := by rfl) (ha : (scope.names.any fun (n, k) => n == y && (k == .local || k == .cell)) = false := by rfl) (hs : ∀ x, foldedSetIterable iter X.env x = pure x := by intro _; rfl) (hs1 : ∀ env x, foldedSetIterable iter1 env x = pure x := by intro _ _; rfl) : WS X (.Assign [.Name y py] (.ListComp elt [⟨tg, iter, [], 0⟩, ⟨tg1, iter1, [], 0⟩] scope pos) spos) δ μ DD :=
  .of (ps_setLc2 (g := bG X scope tg) (g1 := bG X scope tg1) (te := bE X scope elt) (wi1 := bI X scope tg1 iter1) (vs1 := vs1) G.calm G.ndX (by rw [G.n]; exact hN) (by rw [G.esc]; exact hy) (sw_true (by rw [G.esc]; exact G.kind) (by rw [G.esc]; exact hy) hl ha) pi_w (by rw [G.n, G.esc]; exact blkOk_by ok) hv (fun s H C cl fp => ⟨fun pins s' σ H v u Q I r h => h ⟨_, _, _, _, _⟩ pins s' u I r⟩) (fun s H C cl fp => pts_nil) (fun s H C cl fp => ⟨fun pins s' σ H Q I h => h ⟨_, _, _, _, _⟩ pins s' I⟩) (fun s H C cl fp => ⟨fun pins s' σ H v u Q I r h => h ⟨_, _, _, _, _⟩ pins s' u I r⟩) (fun s H C cl fp => pts_nil) (fun s H C cl fp => ⟨fun pins s' σ H Q I h => h ⟨_, _, _, _, _⟩ pins s' I⟩) hs hs1)
    (es_asg (EvE.mono (ev_lc2 o (EvI.mono h fun xs keep μ1 ⟨h1, F, B, h2, h3, h4, h5⟩ => ⟨h1, F, B, h2, h3, fun i d hd μ' => (bG_ev (h4 i d hd μ')).mono fun δ2 μ2 ⟨e, h6⟩ => ⟨e, (bI_ev h6).mono fun ys keep1 μ3 ⟨e3, h7, f, h8, h9⟩ => ⟨e3, h7, f, h8, fun j e he μ' => (bG_ev (h9 j e he μ')).mono fun δ3 μ4 ⟨e4, h10⟩ => ⟨e4, bE_ev h10⟩⟩⟩, h5⟩)) fun _ _ h => eg_name h))
end
end DL
set_option Elab.async false
set_option linter.all false
set_option maxRecDepth 100000
set_option maxHeartbeats 4000000
/-! DLf: dict comprehensions. -/
namespace DL
open PySem PySem.Spec PyProof.Rows L2
open Evl (Ex)
section
variable {K : PySem.W.Frag} {δ : DS} {μ : List M} {ti : TI} {g : TG} {tk tv : TE} {RW : W → List M → Prop}
theorem ev_dc {vs : List Nat} (h : EvI K ti δ μ fun xs keep μ1 => xs.length ≤ 40000 ∧ (∀ μ', keep μ') ∧ ∃ (fk : D → Key) (fv : D → D),
      (∀ (i : Nat) (d : D), xs[i]? = some d → ∀ μ', EvC K g vs (.val d) (wipeD δ vs) μ' fun δ2 μ2 => μ2 = μ' ∧ EvE K tk δ2 μ' fun w μ3 => w = .val (DL.dK (fk d)) ∧ μ3 = μ' ∧ EvE K tv δ2 μ' fun w2 μ4 => w2 = .val (fv d) ∧ μ4 = μ') ∧ RW (.val (.dK (kputs [] (xs.map fun d => (fk d, fv d))))) μ1) :
    EvE K (tDc ti g tYes tk tv vs) δ μ RW := fun G H A σ c s Q l => by
  refine h G H A σ c s _ fun J xs keep G1 H1 A1 μ1 s1 c1 hJ ⟨hz, hk, fk, fv, ht, he⟩ L hL => ?_
  obtain ⟨Gd, Y, wk, hg, hy⟩ := hJ
  have l1 := lnk_ret c1 (l.step c1 s1)
  obtain ⟨c0, s0⟩ := c1.newA hL (o := .dK []) (m := .mK []) ⟨[], rfl, .nil⟩
  have atL : ∀ {G' H' A'}, Step G1 (upd H1 L (.dK [])) (A1 ++ [L]) G' H' A' → A'[μ1.length]? = some L := fun st => by
    obtain ⟨t, e, _⟩ := st.a
    rw [e, ← c1.len]
    simp
  refine ⟨fun i m H' => m = xs.length - i ∧ i ≤ xs.length ∧ ∃ G' A' ds, ds.length ≤ i ∧ ds = kputs [] ((xs.take i).map fun d => (fk d, fv d)) ∧ Step G1 (upd H1 L (.dK [])) (A1 ++ [L]) G' H' A' ∧ Con K G' H' A' (μ1 ++ [.mK ds]), ⟨xs.length, by simp, Nat.zero_le _, G1, A1 ++ [L], [], Nat.le_refl _, rfl, Step.refl, c0⟩, ?_⟩
  rintro i m H' ⟨rfl, hi, G', A', ds, hds, eds, st, c'⟩
  have stt := s0.trans c0 st
  have q := hg G' H' A' _ stt c' (hk _)
  by_cases hlt : i < xs.length
  case neg =>
    have e : i = xs.length := by omega
    subst e
    rw [List.take_length] at eds
    refine .inl ⟨wk.stops H' q, l1 (.ref L) (.own μ1.length) G' H' A' _ stt c' ⟨L, atL st, rfl⟩ ?_⟩
    show (if μ1.length < μ1.length then _ else _)
    rw [if_neg (Nat.lt_irrefl _)]
    refine ⟨.mK ds, at_last, .inl ?_⟩
    rw [List.take_left' rfl]
    show RW (.val (.dK ds)) μ1
    rw [eds]
    exact he
  refine .inr ⟨wk.goes i H' hlt q, fun H'' => ∃ G' A' ds, ds.length ≤ i + 1 ∧ ds = kputs [] ((xs.take (i + 1)).map fun d => (fk d, fv d)) ∧ Step G1 (upd H1 L (.dK [])) (A1 ++ [L]) G' H'' A' ∧ Con K G' H'' A' (μ1 ++ [.mK ds]), fun H'' hN => ⟨xs.length - (i + 1), by omega, rfl, hlt, hN⟩, fun x H2 y => ?_⟩
  have hx : xs[i]? = some xs[i] := List.getElem?_eq_getElem hlt
  obtain ⟨G2, s2, c2, r2⟩ := hy i _ G' H' A' _ x H2 hx stt c' (hk _) (wk.yields i H' x H2 hlt q y)
  have st2 := st.trans c' s2
  refine ht i _ hx _ G2 H2 A' (L2.wipe σ vs) x c2 (((s.step s1).step (stt.trans c' s2)).wipe vs) r2 _ fun σ3 δ3 G3 H3 A3 μ3 e3 s3 c3 r3 ⟨em, h3⟩ => ?_
  subst em
  refine ⟨e3.trans (wipe_wipe vs σ), ?_⟩
  have st3 := st2.trans c2 s3
  dsimp only [tYes]
  try rw [if_pos rfl]
  refine h3 G3 H3 A3 σ3 c3 r3 _ fun v4 w4 G4 H4 A4 μ4 s4 c4 r4 ⟨ew, em4, h4⟩ => ?_
  subst ew em4
  refine h4 G4 H4 A4 σ3 c4 (r3.step s4) _ fun v5 w5 G5 H5 A5 μ5 s5 c5 r5 ⟨ew, em5⟩ => ?_
  subst ew em5
  obtain rfl := rep_key r4
  have sB := (st3.trans c3 s4).trans c4 s5
  have hA5 := atL sB
  obtain ⟨oo, hH5, kvs, rfl, rv⟩ := c5.mem μ1.length L _ hA5 at_last
  obtain ⟨c6, s6⟩ := c5.put hA5 (o := .dK (putK kvs (fk xs[i]) v5)) (m := .mK (kput ds (fk xs[i]) (fv xs[i]))) ⟨_, rfl, (rv.p.put _ r5).k⟩
  rw [set_last] at c6
  refine ⟨kvs, fk xs[i], rfl, hH5, Evl.sz_lt (by rw [rv.length]; omega), G5, A5, _, ?_, ?_, sB.trans c5 s6, c6⟩
  · have := kput_length ds (fk xs[i]) (fv xs[i])
    omega
  · rw [getElem?_take_succ hx, List.map_append, eds]
    unfold kputs
    rw [List.foldl_append]
    rfl
end
section
variable {X : Cx} {sc : Scope} {N : List Str} {δ : DS} {μ : List M} {R : W → List M → Prop} {tg iter kx vx : Expr} {scope : Scope} {pos p : Pos}
/-- {k: v for .. in ..} -/
theorem x_dc (G : GX X sc N) (own : List (Str × Nat)) (h : WI X tg iter δ μ fun xs keep μ1 => xs.length ≤ 40000 ∧ (∀ μ', keep μ') ∧ ∃ (fk : D → Key) (fv : D → D),
      (∀ (i : Nat) (d : D), xs[i]? = some d → ∀ μ' b, WC (bkX X scope b) tg (own.map (·.2)) (.val d) (wipeD δ (own.map (·.2))) μ' fun δ2 μ2 => μ2 = μ' ∧ ∀ b, WE (bkX X scope b) kx δ2 μ' fun w μ3 => w = .val (DL.dK (fk d)) ∧ μ3 = μ' ∧ ∀ b, WE (bkX X scope b) vx δ2 μ' fun w2 μ4 => w2 = .val (fv d) ∧ μ4 = μ') ∧ R (.val (.dK (kputs [] (xs.map fun d => (fk d, fv d))))) μ1)
    (ok : blkC N sc scope own = true := by decide +kernel) (hs : ∀ x, foldedSetIterable iter X.env x = pure x := by intro _; rfl) : WE X (.DictComp kx vx [⟨tg, iter, [], 0⟩] scope pos) δ μ R :=
  .of (pe_dc (g := bG X scope tg) (tk := bE X scope kx) (tv := bE X scope vx) G.calm G.ndX pi_w (by rw [G.n, G.esc]; exact blkOk_by ok) (fun s H C cl fp => ⟨fun pins s' σ H v u Q I r h => h ⟨_, _, _, _, _⟩ pins s' u I r⟩) (fun s H C cl fp => pts_nil) (fun s H C cl fp => ⟨fun pins s' σ H Q I h => h ⟨_, _, _, _, _⟩ pins s' I⟩) (fun s H C cl fp => ⟨fun pins s' σ H Q I h => h ⟨_, _, _, _, _⟩ pins s' I⟩) hs)
    (ev_dc (EvI.mono h fun xs keep μ1 ⟨h1, h2, fk, fv, h3, h4⟩ => ⟨h1, h2, fk, fv, fun i d hd μ' => (bG_ev (h3 i d hd μ')).mono fun δ2 μ2 ⟨e, h5⟩ => ⟨e, (bE_ev h5).mono fun w μ3 ⟨e1, e2, h6⟩ => ⟨e1, e2, bE_ev h6⟩⟩, h4⟩))
end
end DL
set_option Elab.async false
set_option linter.all false
set_option maxRecDepth 100000
set_option maxHeartbeats 2000000
namespace DL
open PySem PySem.Spec PyProof.Rows L2
def top (i : Nat) : Stmt := PySem.Challenge.pw_roundpost_k85_whole_news_of_all_places.main.body.getD i (.Pass ⟨0, 0, 0, 0⟩)
structure Tops (m : Mo) : Prop where
  isinstance : m.mg "isinstance" = none
  len : m.mg "len" = none
  all : m.mg "all" = none
  set : m.mg "set" = none
  tuple : m.mg "tuple" = none
  list : m.mg "list" = none
  dict : m.mg "dict" = none
  sorted : m.mg "sorted" = none
  range : m.mg "range" = none
  enumerate : m.mg "enumerate" = none
  zip : m.mg "zip" = none
  int : m.mg "int" = none
  max : m.mg "max" = none
  min : m.mg "min" = none
  sum : m.mg "sum" = none
  str : m.mg "str" = none
  bool : m.mg "bool" = none
  LETTERS : ∃ t, m.mg "LETTERS" = some (.str "abcdefghijklmnopqrstuvwxyz" t)
  SIGNS : ∃ t, m.mg "SIGNS" = some (.str "abcdefghijklmnopqrstuvwxyz0123456789" t)
  MOST_SIGNS : ∃ t, m.mg "MOST_SIGNS" = some (.int 8 t)
  MOST_PLACES : ∃ t, m.mg "MOST_PLACES" = some (.int 10 t)
  MOST_ROADS : ∃ t, m.mg "MOST_ROADS" = some (.int 14 t)
  MOST_ROUNDS : ∃ t, m.mg "MOST_ROUNDS" = some (.int 4 t)
  MOST_DAY : ∃ t, m.mg "MOST_DAY" = some (.int 1000000 t)
  MOST_DEEDS : ∃ t, m.mg "MOST_DEEDS" = some (.int 20 t)
  MOST_DAYS : ∃ t, m.mg "MOST_DAYS" = some (.int 200 t)
theorem ret_val {R : W → List M → Prop} {μ : List M} {d : D} (h : R (.val d) μ) : RetR μ.length R (.val d) μ := by
  show R (.val d) (μ.take μ.length)
  rw [List.take_length]
  exact h
end DL
set_option Elab.async false
set_option linter.all false
set_option maxRecDepth 100000
set_option maxHeartbeats 2000000
namespace DL
open PySem PySem.Spec PyProof.Rows L2
/-! ### kinds -/
def isIB : D → Bool
  | .int _ | .bl _ => true
  | _ => false
def isB : D → Bool
  | .bl _ => true
  | _ => false
def isInt : D → Bool
  | .int _ => true
  | _ => false
theorem kit_int {d : D} (hd : okT d = true) : kitB (tyD d) "int" = some (isIB d) := by
  cases d <;> first | (dsimp only [tyD, isIB, isB]; decide +kernel) | cases hd
theorem kit_bool {d : D} (hd : okT d = true) : kitB (tyD d) "bool" = some (isB d) := by
  cases d <;> first | (dsimp only [tyD, isIB, isB]; decide +kernel) | cases hd
abbrev s_is_integer : Stmt := top 12
theorem sc_is_integer : FnScope ["thing"] ["thing"] (defScope s_is_integer) := ⟨rfl, rfl, rfl, by decide +kernel, rfl, by decide +kernel, by decide +kernel⟩
def S_is_integer : SpecD := fun ws μ R => ∃ d, ws = [.val d] ∧ okT d = true ∧ R (.val (.bl (isInt d))) μ
theorem ok_is_integer {m : Mo} (T : Tops m) (F : Stands m "is_integer" s_is_integer) : Callee m "is_integer" 1 S_is_integer := by
  refine callee_of F sc_is_integer (ps := ["thing"]) (fun ws μ R h => by obtain ⟨d, rfl, _⟩ := h; rfl) (fun _ _ _ _ _ _ us hl => match us, hl with | [_], _ => rfl) fun X hm G fx hr ws μ R h => ?_
  subst hm
  obtain ⟨d, rfl, hd, h⟩ := h
  refine s_one (s_ret (x_and (x_isi G T.isinstance T.int (by decide +kernel) (x_v G 0 ⟨d, _, rfl, hd, kit_int hd, bb ⟨fun k => ?_, fun k => ?_⟩⟩))))
  · refine x_one (x_not (x_isi G T.isinstance T.bool (by decide +kernel) (x_v G 0 ⟨d, _, rfl, hd, kit_bool hd, bb (ret_val ?_)⟩)))
    cases d <;> first | exact h | cases k
  · refine ret_val ?_
    cases d <;> first | exact h | cases k
abbrev s_is_within : Stmt := top 13
theorem sc_is_within : FnScope ["thing", "least", "most"] ["thing", "least", "most"] (defScope s_is_within) := ⟨rfl, rfl, rfl, by decide +kernel, rfl, by decide +kernel, by decide +kernel⟩
def S_is_within : SpecD := fun ws μ R => ∃ i lo hi : Int, ws = [.val (.int i), .val (.int lo), .val (.int hi)] ∧ R (.val (.bl (decide (lo ≤ i) && decide (i ≤ hi)))) μ
theorem ok_is_within {m : Mo} (T : Tops m) (F : Stands m "is_within" s_is_within) (C1 : Callee m "is_integer" 1 S_is_integer) : Callee m "is_within" 2 S_is_within := by
  refine callee_of F sc_is_within (ps := ["thing", "least", "most"]) (fun ws μ R h => by obtain ⟨d, _, _, rfl, _⟩ := h; rfl) (fun _ _ _ _ _ _ us hl => match us, hl with | [_, _, _], _ => rfl) fun X hm G fx hr ws μ R h => ?_
  subst hm
  obtain ⟨i, lo, hi, rfl, h⟩ := h
  refine s_one (s_ret (x_and (x_call G C1 hr (by decide) (a_cons (x_v G 0 (a_nil ⟨.int i, rfl, rfl, bb ⟨fun _ => ?_, fun k => nomatch k⟩⟩))))))
  refine x_one (x_lele (x_v G 1 (x_v G 0 (ii ⟨fun k => x_v G 2 ⟨_, rfl, ret_val ?_⟩, fun k => ret_val ?_⟩))))
  · rw [decide_eq_true k] at h; exact h
  · rw [decide_eq_false k] at h; exact h
end DL
set_option Elab.async false
set_option linter.all false
set_option maxRecDepth 100000
set_option maxHeartbeats 2000000
namespace DL
open PySem PySem.Spec PyProof.Rows L2
section
variable {X : Cx} {sc : Scope} {N : List Str} {δ : DS} {μ : List M} {R : W → List M → Prop} {RB : Bool → List M → Prop} {elt tg iter : Expr} {scope : Scope} {pos p q : Pos}
/-- all([..]), each true -/
theorem x_allT (G : GX X sc N) (hm : (moOf X).mg "all" = none) (own : List (Str × Nat)) (h : WI X tg iter δ μ fun xs keep μ1 => xs.length ≤ 40000 ∧ keep μ1 ∧ (∀ (i : Nat) (d : D), xs[i]? = some d → ∀ b, WC (bkX X scope b) tg (own.map (·.2)) (.val d) (wipeD δ (own.map (·.2))) μ1 fun δ2 μ2 => ∀ b, WE (bkX X scope b) elt δ2 μ2 fun w μ4 => w = .val (.bl true) ∧ μ4 = μ1) ∧ R (.val (.bl true)) μ1)
    (hg : sc.names.lookup ("all" : Str) = some .globalImplicit := by rfl) (ok : blkC N sc scope own = true := by decide +kernel) (hs : ∀ x, foldedSetIterable iter X.env x = pure x := by intro _; rfl)
    (hs1 : starEach [.ListComp elt [⟨tg, iter, [], 0⟩] scope pos] X.env = (false, eval (.ListComp elt [⟨tg, iter, [], 0⟩] scope pos) X.env) :: starEach [] X.env := by rfl) : WE X (.Call (.Name "all" p) [.ListComp elt [⟨tg, iter, [], 0⟩] scope pos] [] q) δ μ R :=
  x_all G hm (x_lc (o := false) G own (lc_map (fun _ => .bl true) (EvI.mono h fun xs keep μ1 ⟨h1, h2, h3, h4⟩ => ⟨h1, h2, h3, ⟨xs.map fun _ => true, by rw [List.map_map]; exact .lst, by
    rw [show (xs.map fun _ => true).all id = true by simp]
    exact h4⟩⟩)) ok hs) hg hs1
end
theorem vtrue {p : Prop} [Decidable p] (h : p) : W.val (D.bl (decide p)) = .val (.bl true) := by rw [decide_eq_true h]
theorem nof {p : Prop} [Decidable p] (h : p) {C : Prop} (k : decide p = false) : C := by rw [decide_eq_true h] at k; cases k
theorem nof' {p : Prop} [Decidable p] (h : p) {C : Prop} (k : (!decide p) = true) : C := by rw [decide_eq_true h] at k; cases k
theorem kit_tt : kitB "tuple" "tuple" = some true := by decide +kernel
theorem kit_ss : kitB "str" "str" = some true := by decide +kernel
theorem kit_tup {d : D} {xs : List D} (h : TupD d xs) : kitB (tyD d) "tuple" = some true := by rcases h with rfl | rfl <;> exact kit_tt
theorem okT_tup {d : D} {xs : List D} (h : TupD d xs) : okT d = true := by rcases h with rfl | rfl <;> rfl
abbrev letters : Str := "abcdefghijklmnopqrstuvwxyz"
abbrev signs : Str := "abcdefghijklmnopqrstuvwxyz0123456789"
structure NameOk (z : Str) : Prop where
  lo : 1 ≤ z.length
  hi : z.length ≤ 8
  fst : ∃ c, z.cps.toList[0]? = some c ∧ c ∈ letters.cps.toList
  all : ∀ c ∈ z.cps.toList, c ∈ signs.cps.toList
abbrev s_is_name : Stmt := top 14
theorem sc_is_name : FnScope ["thing", "sign"] ["thing"] (defScope s_is_name) := ⟨rfl, rfl, rfl, by decide +kernel, rfl, by decide +kernel, by decide +kernel⟩
def S_is_name : SpecD := fun ws μ R => ∃ z : Str, ws = [.val (.str z)] ∧ NameOk z ∧ R (.val (.bl true)) μ
theorem ok_is_name {m : Mo} (T : Tops m) (F : Stands m "is_name" s_is_name) : Callee m "is_name" 1 S_is_name := by
  refine callee_of F sc_is_name (ps := ["thing"]) (fun ws μ R h => by obtain ⟨d, rfl, _⟩ := h; rfl) (fun _ _ _ _ _ _ us hl => match us, hl with | [_], _ => rfl) fun X hm G fx hr ws μ R h => ?_
  subst hm
  obtain ⟨z, rfl, ⟨h1, h2, ⟨c, hc, hc2⟩, h4⟩, h⟩ := h
  refine s_cons <| s_if <| t_or <| t_not <| t_val <| x_isi G T.isinstance T.str (by decide +kernel) <| x_v G 0 ⟨.str z, true, rfl, rfl, kit_ss, bb ⟨fun _ => ?_, fun k => nomatch k⟩⟩
  refine w_or1 <| t_not <| t_lele <| x_int <| x_lenS G T.len <| x_v G 0 ⟨z, rfl, by omega, ii ⟨fun _ => x_gint G T.MOST_SIGNS ⟨_, rfl, ⟨fun k => ?_, fun _ => ?_⟩⟩, fun k => absurd (show (1 : Int) ≤ z.length by omega) k⟩⟩
  · exact nof' (show (z.length : Int) ≤ 8 by omega) k
  · refine s_nil <| s_one <| s_ret <| x_and <| x_inC <| x_atS <| x_v G 0 <| x_int ⟨z, 0, c, rfl, rfl, by omega, ?_, x_gstr G T.LETTERS ⟨c, _, rfl, rfl, bb ⟨fun _ => ?_, fun k => ?_⟩⟩⟩
    · have hl : 0 < z.cps.toList.length := (List.getElem?_eq_some_iff.mp hc).1
      unfold atI ixN
      rw [if_pos (Int.le_refl 0), if_pos (by omega)]
      exact hc
    · refine x_one <| x_allT G T.all [("sign", 1)] <| i_str <| x_v G 0 ⟨z, rfl, ?_, trivial, fun i d hd b => c_name (G.bk rfl) 1 fun b => x_inC <| x_v (G.bk rfl) 1 ?_, ret_val h⟩
      · unfold sgns
        rw [List.length_map]
        have : z.cps.toList.length = z.length := by simp [Str.length]
        omega
      · unfold sgns at hd
        rw [List.getElem?_map] at hd
        cases e : z.cps.toList[i]? with
        | none => rw [e] at hd; cases hd
        | some c' =>
          rw [e] at hd
          cases hd
          exact x_gstr (G.bk rfl) T.SIGNS ⟨c', _, rfl, rfl, vtrue (h4 c' (List.mem_of_getElem? e)), rfl⟩
    · exact nof hc2 k
/-! ### webs -/
structure Wb where
  ps : List Str
  rs : List (Str × Str × Str)
def roadD (r : Str × Str × Str) : D := .tup [.str r.1, .str r.2.1, .str r.2.2]
def psD (ps : List Str) : D := .tux (ps.map .str)
def rsD (rs : List (Str × Str × Str)) : D := .tup (rs.map roadD)
def webD (w : Wb) : D := .tup [psD w.ps, rsD w.rs]
structure WOk (w : Wb) : Prop where
  pn : w.ps.Nodup
  pok : ∀ p ∈ w.ps, NameOk p
  pl : 1 ≤ w.ps.length
  pm : w.ps.length ≤ 10
  rm : w.rs.length ≤ 14
  rn : (w.rs.map (·.1)).Nodup
  rok : ∀ r ∈ w.rs, NameOk r.1 ∧ r.2.1 ∈ w.ps ∧ r.2.2 ∈ w.ps ∧ r.2.1 ≠ r.2.2
theorem tupT {xs : List D} : TupD (.tup xs) xs := .inl rfl
theorem tuxT {xs : List D} : TupD (.tux xs) xs := .inr rfl
theorem maps_get {α : Type} {f : α → D} {xs : List α} {i : Nat} {d : D} (h : (xs.map f)[i]? = some d) : ∃ x, xs[i]? = some x ∧ d = f x := by
  rw [List.getElem?_map] at h
  cases e : xs[i]? with
  | none => rw [e] at h; cases h
  | some x => rw [e] at h; cases h; exact ⟨x, rfl, rfl⟩
abbrev s_is_row_of : Stmt := top 15
theorem sc_is_row_of : FnScope ["thing", "least", "most"] ["thing", "least", "most"] (defScope s_is_row_of) := ⟨rfl, rfl, rfl, by decide +kernel, rfl, by decide +kernel, by decide +kernel⟩
def S_is_row_of : SpecD := fun ws μ R => ∃ (d : D) (xs : List D) (lo hi : Int), ws = [.val d, .val (.int lo), .val (.int hi)] ∧ TupD d xs ∧ lo ≤ xs.length ∧ (xs.length : Int) ≤ hi ∧ R (.val (.bl true)) μ
theorem ok_is_row_of {m : Mo} (T : Tops m) (F : Stands m "is_row_of" s_is_row_of) : Callee m "is_row_of" 1 S_is_row_of := by
  refine callee_of F sc_is_row_of (ps := ["thing", "least", "most"]) (fun ws μ R h => by obtain ⟨d, _, _, _, rfl, _⟩ := h; rfl) (fun _ _ _ _ _ _ us hl => match us, hl with | [_, _, _], _ => rfl) fun X hm G fx hr ws μ R h => ?_
  subst hm
  obtain ⟨d, xs, lo, hi, rfl, hd, h1, h2, h⟩ := h
  refine s_one <| s_ret <| x_and <| x_isi G T.isinstance T.tuple (by decide +kernel) <| x_v G 0 ⟨d, true, rfl, okT_tup hd, kit_tup hd, bb ⟨fun _ => ?_, fun k => nomatch k⟩⟩
  refine x_one <| x_lele <| x_v G 1 <| x_len G T.len <| x_v G 0 ⟨xs, .tup hd, ii ⟨fun _ => x_v G 2 ⟨_, rfl, ret_val ?_⟩, fun k => absurd h1 k⟩⟩
  rw [decide_eq_true h2]
  exact h
abbrev s_are_of : Stmt := top 16
theorem sc_are_of : FnScope ["thing", "names", "part"] ["thing", "names"] (defScope s_are_of) := ⟨rfl, rfl, rfl, by decide +kernel, rfl, by decide +kernel, by decide +kernel⟩
def S_are_of : SpecD := fun ws μ R => ∃ (d e : D) (zs ys : List Str), ws = [.val d, .val e] ∧ TupD d (zs.map .str) ∧ SeqW μ (.val e) (ys.map .str) ∧ zs.Nodup ∧ zs.length ≤ 4000 ∧ (∀ z ∈ zs, z ∈ ys) ∧ R (.val (.bl true)) μ
theorem ok_are_of {m : Mo} (T : Tops m) (F : Stands m "are_of" s_are_of) : Callee m "are_of" 1 S_are_of := by
  refine callee_of F sc_are_of (ps := ["thing", "names"]) (fun ws μ R h => by obtain ⟨d, _, _, _, rfl, _⟩ := h; rfl) (fun _ _ _ _ _ _ us hl => match us, hl with | [_, _], _ => rfl) fun X hm G fx hr ws μ R h => ?_
  subst hm
  obtain ⟨d, e, zs, ys, rfl, hd, he, hnd, hz, hm, h⟩ := h
  refine s_cons <| s_if <| t_not <| t_val <| x_allT G T.all [("part", 2)] <| i_tup <| x_v G 0 ⟨d, _, rfl, hd, by rw [List.length_map]; omega, trivial, fun i d' hi b => ?_, bb ⟨(fun k => nomatch k), fun _ => s_nil ?_⟩⟩
  · obtain ⟨z, h1, rfl⟩ := maps_get hi
    refine c_name (G.bk rfl) 2 fun b => x_and <| x_isi (G.bk rfl) T.isinstance T.str (by decide +kernel) <| x_v (G.bk rfl) 2 ⟨.str z, true, rfl, rfl, kit_ss, bb ⟨fun _ => ?_, fun k => nomatch k⟩⟩
    exact x_one <| x_inS <| x_v (G.bk rfl) 2 <| x_v (G.bk rfl) 1 ⟨z, ys, rfl, he, vtrue (hm z (List.mem_of_getElem? h1)), rfl⟩
  · refine s_one <| s_ret <| x_eq <| x_lenU G T.len T.set <| x_v G 0 ⟨zs, .tup hd, hnd, hz, x_len G T.len <| x_v G 0 ⟨zs.map .str, .tup hd, _, .int _ _, ret_val ?_⟩⟩
    rw [List.length_map, decide_eq_true rfl]
    exact h
abbrev s_need_count : Stmt := top 17
theorem sc_need_count : FnScope ["count", "least", "most"] ["count", "least", "most"] (defScope s_need_count) := ⟨rfl, rfl, rfl, by decide +kernel, rfl, by decide +kernel, by decide +kernel⟩
def S_need_count : SpecD := fun ws μ R => ∃ i lo hi : Int, ws = [.val (.int i), .val (.int lo), .val (.int hi)] ∧ lo ≤ i ∧ i ≤ hi ∧ R (.val .non) μ
theorem ok_need_count {m : Mo} (T : Tops m) (F : Stands m "need_count" s_need_count) (C1 : Callee m "is_within" 2 S_is_within) : Callee m "need_count" 3 S_need_count := by
  refine callee_of F sc_need_count (ps := ["count", "least", "most"]) (fun ws μ R h => by obtain ⟨d, _, _, rfl, _⟩ := h; rfl) (fun _ _ _ _ _ _ us hl => match us, hl with | [_, _, _], _ => rfl) fun X hm G fx hr ws μ R h => ?_
  subst hm
  obtain ⟨i, lo, hi, rfl, h1, h2, h⟩ := h
  refine s_one <| s_if <| t_not <| t_val <| x_call G C1 hr (by decide) <| a_cons <| x_v G 0 <| a_cons <| x_v G 1 <| a_cons <| x_v G 2 <| a_nil ⟨i, lo, hi, rfl, bb ⟨fun k => ?_, fun _ => s_nil (ret_val h)⟩⟩
  rw [decide_eq_true h1, decide_eq_true h2] at k; cases k
abbrev s_names_of_roads : Stmt := top 19
theorem sc_names_of_roads : FnScope ["web", "road"] ["web"] (defScope s_names_of_roads) := ⟨rfl, rfl, rfl, by decide +kernel, rfl, by decide +kernel, by decide +kernel⟩
def S_names_of_roads : SpecD := fun ws μ R => ∃ w, ws = [.val (webD w)] ∧ w.rs.length ≤ 40000 ∧ R (.val (.lst ((w.rs.map (·.1)).map .str))) μ
theorem x_web1 {X : Cx} {δ : DS} {μ : List M} {R : W → List M → Prop} {a : Expr} {p q : Pos} {k : Nat} {w : Wb} (h : WE X a δ μ fun u μ1 => u = .val (webD w) ∧ R (.val (rsD w.rs)) μ1) : WE X (.Subscript a (.Constant (.int 1) k p) q) δ μ R :=
  x_at (h.mono fun u μ1 ⟨e, h⟩ => x_int ⟨[psD w.ps, rsD w.rs], 1, rsD w.rs, by rw [e]; exact .tup tupT, rfl, rfl, h⟩)
theorem x_web0 {X : Cx} {δ : DS} {μ : List M} {R : W → List M → Prop} {a : Expr} {p q : Pos} {k : Nat} {w : Wb} (h : WE X a δ μ fun u μ1 => u = .val (webD w) ∧ R (.val (psD w.ps)) μ1) : WE X (.Subscript a (.Constant (.int 0) k p) q) δ μ R :=
  x_at (h.mono fun u μ1 ⟨e, h⟩ => x_int ⟨[psD w.ps, rsD w.rs], 0, psD w.ps, by rw [e]; exact .tup tupT, rfl, rfl, h⟩)
theorem ok_names_of_roads {m : Mo} (T : Tops m) (F : Stands m "names_of_roads" s_names_of_roads) : Callee m "names_of_roads" 1 S_names_of_roads := by
  refine callee_of F sc_names_of_roads (ps := ["web"]) (fun ws μ R h => by obtain ⟨d, rfl, _⟩ := h; rfl) (fun _ _ _ _ _ _ us hl => match us, hl with | [_], _ => rfl) fun X hm G fx hr ws μ R h => ?_
  subst hm
  obtain ⟨w, rfl, hz, h⟩ := h
  refine s_one <| s_ret <| x_lc (o := false) G [("road", 1)] <| lc_map (fun d => match d with | .tup (x :: _) => x | _ => .non) <| i_tup <| x_web1 (w := w) <| x_v G 0 ⟨rfl, _, _, rfl, tupT, by rw [List.length_map]; exact hz, trivial, fun i d hi b => ?_, ret_val ?_⟩
  · obtain ⟨r, h1, rfl⟩ := maps_get hi
    exact c_name (G.bk rfl) 1 fun b => x_at <| x_v (G.bk rfl) 1 <| x_int ⟨_, 0, _, .tup tupT, rfl, rfl, rfl, rfl⟩
  · rw [List.map_map] at h ⊢
    exact h
end DL
set_option Elab.async false
set_option linter.all false
set_option maxRecDepth 100000
set_option maxHeartbeats 2000000
namespace DL
open PySem PySem.Spec PyProof.Rows L2
abbrev s_other_end : Stmt := top 20
theorem sc_other_end : FnScope ["road", "place"] ["road", "place"] (defScope s_other_end) := ⟨rfl, rfl, rfl, by decide +kernel, rfl, by decide +kernel, by decide +kernel⟩
def farEnd (r : Str × Str × Str) (p : Str) : Str := if r.2.1 = p then r.2.2 else r.2.1
def S_other_end : SpecD := fun ws μ R => ∃ r p, ws = [.val (roadD r), .val (.str p)] ∧ R (.val (.str (farEnd r p))) μ
theorem ok_other_end {m : Mo} (T : Tops m) (F : Stands m "other_end" s_other_end) : Callee m "other_end" 1 S_other_end := by
  refine callee_of F sc_other_end (ps := ["road", "place"]) (fun ws μ R h => by obtain ⟨d, _, rfl, _⟩ := h; rfl) (fun _ _ _ _ _ _ us hl => match us, hl with | [_, _], _ => rfl) fun X hm G fx hr ws μ R h => ?_
  subst hm
  obtain ⟨r, p, rfl, h⟩ := h
  refine s_one <| s_ret <| x_if <| t_eq <| x_at <| x_v G 0 <| x_int ⟨_, 1, _, .tup tupT, rfl, rfl, x_v G 1 ⟨_, .str _ _, fun k => ?_, fun k => ?_⟩⟩
  · refine x_at <| x_v G 0 <| x_int ⟨_, 2, _, .tup tupT, rfl, rfl, ret_val ?_⟩
    unfold farEnd at h
    rw [if_pos (of_decide_eq_true k)] at h
    exact h
  · refine x_at <| x_v G 0 <| x_int ⟨_, 1, _, .tup tupT, rfl, rfl, ret_val ?_⟩
    unfold farEnd at h
    rw [if_neg (of_decide_eq_false k)] at h
    exact h
abbrev s_are_names : Stmt := top 28
theorem sc_are_names : FnScope ["thing", "name"] ["thing"] (defScope s_are_names) := ⟨rfl, rfl, rfl, by decide +kernel, rfl, by decide +kernel, by decide +kernel⟩
def S_are_names : SpecD := fun ws μ R => ∃ (d : D) (zs : List Str), ws = [.val d] ∧ TupD d (zs.map .str) ∧ zs.Nodup ∧ zs.length ≤ 4000 ∧ (∀ z ∈ zs, NameOk z) ∧ R (.val (.bl true)) μ
theorem ok_are_names {m : Mo} (T : Tops m) (F : Stands m "are_names" s_are_names) (C1 : Callee m "is_name" 1 S_is_name) : Callee m "are_names" 2 S_are_names := by
  refine callee_of F sc_are_names (ps := ["thing"]) (fun ws μ R h => by obtain ⟨d, _, rfl, _⟩ := h; rfl) (fun _ _ _ _ _ _ us hl => match us, hl with | [_], _ => rfl) fun X hm G fx hr ws μ R h => ?_
  subst hm
  obtain ⟨d, zs, rfl, hd, hnd, hz, hok, h⟩ := h
  refine s_one <| s_ret <| x_and <| x_allT G T.all [("name", 1)] <| i_tup <| x_v G 0 ⟨d, _, rfl, hd, by rw [List.length_map]; omega, trivial, fun i d' hi b => ?_, bb ⟨fun _ => ?_, fun k => nomatch k⟩⟩
  · obtain ⟨z, h1, rfl⟩ := maps_get hi
    exact c_name (G.bk rfl) 1 fun b => x_call (G.bk rfl) C1 hr (by decide) <| a_cons <| x_v (G.bk rfl) 1 <| a_nil ⟨z, rfl, hok z (List.mem_of_getElem? h1), rfl, rfl⟩
  · refine x_one <| x_eq <| x_lenU G T.len T.set <| x_v G 0 ⟨zs, .tup hd, hnd, hz, x_len G T.len <| x_v G 0 ⟨zs.map .str, .tup hd, _, .int _ _, ret_val ?_⟩⟩
    rw [List.length_map, decide_eq_true rfl]
    exact h
abbrev s_is_road : Stmt := top 29
theorem sc_is_road : FnScope ["thing", "places"] ["thing", "places"] (defScope s_is_road) := ⟨rfl, rfl, rfl, by decide +kernel, rfl, by decide +kernel, by decide +kernel⟩
def S_is_road : SpecD := fun ws μ R => ∃ (r : Str × Str × Str) (e : D) (ys : List Str), ws = [.val (roadD r), .val e] ∧ TupD e (ys.map .str) ∧ NameOk r.1 ∧ r.2.1 ∈ ys ∧ r.2.2 ∈ ys ∧ r.2.1 ≠ r.2.2 ∧ R (.val (.bl true)) μ
theorem ok_is_road {m : Mo} (T : Tops m) (F : Stands m "is_road" s_is_road) (C1 : Callee m "is_row_of" 1 S_is_row_of) (C2 : Callee m "is_name" 1 S_is_name) (C3 : Callee m "are_of" 1 S_are_of) : Callee m "is_road" 2 S_is_road := by
  refine callee_of F sc_is_road (ps := ["thing", "places"]) (fun ws μ R h => by obtain ⟨d, _, _, rfl, _⟩ := h; rfl) (fun _ _ _ _ _ _ us hl => match us, hl with | [_, _], _ => rfl) fun X hm G fx hr ws μ R h => ?_
  subst hm
  obtain ⟨r, e, ys, rfl, he, h1, h2, h3, h4, h⟩ := h
  refine s_one <| s_ret <| x_and <| x_call G C1 hr (by decide) <| a_cons <| x_v G 0 <| a_cons <| x_int <| a_cons <| x_int <| a_nil ⟨_, _, 3, 3, rfl, tupT, Int.le_refl _, Int.le_refl _, bb ⟨fun _ => ?_, fun k => nomatch k⟩⟩
  refine x_and <| x_call G C2 hr (by decide) <| a_cons <| x_at <| x_v G 0 <| x_int ⟨_, 0, _, .tup tupT, rfl, rfl, a_nil ⟨r.1, rfl, h1, bb ⟨fun _ => ?_, fun k => nomatch k⟩⟩⟩
  refine x_one <| x_call G C3 hr (by decide) <| a_cons <| x_slT <| x_v G 0 <| o_some <| x_int ⟨1, rfl, o_none ⟨_, [.str r.1, .str r.2.1, .str r.2.2], rfl, tupT, (by show ¬ (HT.sIx 3 0 (some 1) = 0 ∧ HT.sIx 3 3 none = 3); decide), a_cons <| x_v G 1 <| a_nil ⟨_, e, [r.2.1, r.2.2], ys, rfl, tupT, .tup he, ?_, (by show 2 ≤ 4000; decide), ?_, ret_val h⟩⟩⟩
  · simpa using h4
  · intro z hz
    rcases List.mem_cons.mp hz with q | q
    · rw [q]; exact h2
    · rw [List.mem_singleton.mp q]; exact h3
abbrev s_is_web_form : Stmt := top 30
theorem sc_is_web_form : FnScope ["thing", "road"] ["thing"] (defScope s_is_web_form) := ⟨rfl, rfl, rfl, by decide +kernel, rfl, by decide +kernel, by decide +kernel⟩
def S_is_web_form : SpecD := fun ws μ R => ∃ w, ws = [.val (webD w)] ∧ WOk w ∧ R (.val (.bl true)) μ
theorem ok_is_web_form {m : Mo} (T : Tops m) (F : Stands m "is_web_form" s_is_web_form) (C1 : Callee m "is_row_of" 1 S_is_row_of) (C2 : Callee m "are_names" 2 S_are_names) (C3 : Callee m "is_road" 2 S_is_road) : Callee m "is_web_form" 3 S_is_web_form := by
  refine callee_of F sc_is_web_form (ps := ["thing"]) (fun ws μ R h => by obtain ⟨d, rfl, _⟩ := h; rfl) (fun _ _ _ _ _ _ us hl => match us, hl with | [_], _ => rfl) fun X hm G fx hr ws μ R h => ?_
  subst hm
  obtain ⟨w, rfl, ok, h⟩ := h
  have hpl : (w.ps.map D.str).length = w.ps.length := List.length_map _
  have hrl : (w.rs.map roadD).length = w.rs.length := List.length_map _
  have l1 := ok.pl
  have l2 := ok.pm
  have l3 := ok.rm
  refine s_cons <| s_if <| t_or <| t_not <| t_val <| x_call G C1 hr (by decide) <| a_cons <| x_v G 0 <| a_cons <| x_int <| a_cons <| x_int <| a_nil ⟨_, _, 2, 2, rfl, tupT, Int.le_refl _, Int.le_refl _, bb ⟨fun _ => ?_, fun k => nomatch k⟩⟩
  refine w_or <| t_not <| t_val <| x_call G C1 hr (by decide) <| a_cons <| x_web0 (w := w) <| x_v G 0 ⟨rfl, a_cons <| x_int <| a_cons <| x_gint G T.MOST_PLACES <| a_nil ⟨_, _, 1, 10, rfl, tuxT, by omega, by omega, bb ⟨fun _ => ?_, fun k => nomatch k⟩⟩⟩
  refine w_or1 <| t_not <| t_val <| x_call G C2 hr (by decide) <| a_cons <| x_web0 (w := w) <| x_v G 0 ⟨rfl, a_nil ⟨_, w.ps, rfl, tuxT, ok.pn, by omega, ok.pok, bb ⟨(fun k => nomatch k), fun _ => s_nil ?_⟩⟩⟩
  refine s_cons <| s_if <| t_or <| t_not <| t_val <| x_call G C1 hr (by decide) <| a_cons <| x_web1 (w := w) <| x_v G 0 ⟨rfl, a_cons <| x_int <| a_cons <| x_gint G T.MOST_ROADS <| a_nil ⟨_, _, 0, 14, rfl, tupT, by omega, by omega, bb ⟨fun _ => ?_, fun k => nomatch k⟩⟩⟩
  refine w_or1 <| t_not <| t_val <| x_allT G T.all [("road", 1)] <| i_tup <| x_web1 (w := w) <| x_v G 0 ⟨rfl, _, _, rfl, tupT, by omega, trivial, fun i d hi b => ?_, bb ⟨(fun k => nomatch k), fun _ => s_nil ?_⟩⟩
  · obtain ⟨r, e, rfl⟩ := maps_get hi
    have hr' := ok.rok r (List.mem_of_getElem? e)
    exact c_name (G.bk rfl) 1 fun b => x_call (G.bk rfl) C3 hr (by decide) <| a_cons <| x_v (G.bk rfl) 1 <| a_cons <| x_web0 (w := w) <| x_v (G.bk rfl) 0 ⟨rfl, a_nil ⟨r, _, w.ps, rfl, tuxT, hr'.1, hr'.2.1, hr'.2.2.1, hr'.2.2.2, rfl, rfl⟩⟩
  · refine s_one <| s_ret <| x_call G C2 hr (by decide) <| a_cons <| x_tuple G T.tuple <| x_lc (o := false) G [("road", 1)] <| lc_map (fun d => match d with | .tup (x :: _) => x | _ => .non) <| i_tup <| x_web1 (w := w) <| x_v G 0 ⟨rfl, _, _, rfl, tupT, by omega, trivial, fun i d hi b => ?_, ⟨_, .lst, a_nil ⟨_, w.rs.map (·.1), rfl, ?_, ok.rn, by rw [List.length_map]; omega, ?_, ret_val h⟩⟩⟩
    · obtain ⟨r, h1, rfl⟩ := maps_get hi
      exact c_name (G.bk rfl) 1 fun b => x_at <| x_v (G.bk rfl) 1 <| x_int ⟨_, 0, _, .tup tupT, rfl, rfl, rfl, rfl⟩
    · left
      rw [List.map_map, List.map_map]
      rfl
    · intro z hz
      obtain ⟨r, hr1, rfl⟩ := List.mem_map.mp hz
      exact (ok.rok r hr1).1
abbrev s_need_web : Stmt := top 31
theorem sc_need_web : FnScope ["web"] ["web"] (defScope s_need_web) := ⟨rfl, rfl, rfl, by decide +kernel, rfl, by decide +kernel, by decide +kernel⟩
def S_need_web : SpecD := fun ws μ R => ∃ w, ws = [.val (webD w)] ∧ WOk w ∧ R (.val .non) μ
theorem ok_need_web {m : Mo} (F : Stands m "need_web" s_need_web) (C1 : Callee m "is_web_form" 3 S_is_web_form) : Callee m "need_web" 4 S_need_web := by
  refine callee_of F sc_need_web (ps := ["web"]) (fun ws μ R h => by obtain ⟨d, rfl, _⟩ := h; rfl) (fun _ _ _ _ _ _ us hl => match us, hl with | [_], _ => rfl) fun X hm G fx hr ws μ R h => ?_
  subst hm
  obtain ⟨w, rfl, ok, h⟩ := h
  exact s_one <| s_if <| t_not <| t_val <| x_call G C1 hr (by decide) <| a_cons <| x_v G 0 <| a_nil ⟨w, rfl, ok, bb ⟨(fun k => nomatch k), fun _ => s_nil (ret_val h)⟩⟩
abbrev s_is_place : Stmt := top 32
theorem sc_is_place : FnScope ["web", "thing"] ["web", "thing"] (defScope s_is_place) := ⟨rfl, rfl, rfl, by decide +kernel, rfl, by decide +kernel, by decide +kernel⟩
def S_is_place : SpecD := fun ws μ R => ∃ w p, ws = [.val (webD w), .val (.str p)] ∧ p ∈ w.ps ∧ R (.val (.bl true)) μ
theorem ok_is_place {m : Mo} (T : Tops m) (F : Stands m "is_place" s_is_place) : Callee m "is_place" 1 S_is_place := by
  refine callee_of F sc_is_place (ps := ["web", "thing"]) (fun ws μ R h => by obtain ⟨d, _, rfl, _⟩ := h; rfl) (fun _ _ _ _ _ _ us hl => match us, hl with | [_, _], _ => rfl) fun X hm G fx hr ws μ R h => ?_
  subst hm
  obtain ⟨w, p, rfl, hp, h⟩ := h
  refine s_one <| s_ret <| x_and <| x_isi G T.isinstance T.str (by decide +kernel) <| x_v G 1 ⟨.str p, true, rfl, rfl, kit_ss, bb ⟨fun _ => ?_, fun k => nomatch k⟩⟩
  refine x_one <| x_inS <| x_v G 1 <| x_web0 (w := w) <| x_v G 0 ⟨rfl, p, w.ps, rfl, .tup tuxT, ret_val ?_⟩
  rw [decide_eq_true hp]
  exact h
abbrev s_need_place : Stmt := top 33
theorem sc_need_place : FnScope ["web", "place"] ["web", "place"] (defScope s_need_place) := ⟨rfl, rfl, rfl, by decide +kernel, rfl, by decide +kernel, by decide +kernel⟩
def S_need_place : SpecD := fun ws μ R => ∃ w p, ws = [.val (webD w), .val (.str p)] ∧ p ∈ w.ps ∧ R (.val .non) μ
theorem ok_need_place {m : Mo} (F : Stands m "need_place" s_need_place) (C1 : Callee m "is_place" 1 S_is_place) : Callee m "need_place" 2 S_need_place := by
  refine callee_of F sc_need_place (ps := ["web", "place"]) (fun ws μ R h => by obtain ⟨d, _, rfl, _⟩ := h; rfl) (fun _ _ _ _ _ _ us hl => match us, hl with | [_, _], _ => rfl) fun X hm G fx hr ws μ R h => ?_
  subst hm
  obtain ⟨w, p, rfl, hp, h⟩ := h
  exact s_one <| s_if <| t_not <| t_val <| x_call G C1 hr (by decide) <| a_cons <| x_v G 0 <| a_cons <| x_v G 1 <| a_nil ⟨w, p, rfl, hp, bb ⟨(fun k => nomatch k), fun _ => s_nil (ret_val h)⟩⟩
abbrev s_place_number : Stmt := top 34
theorem sc_place_number : FnScope ["web", "place"] ["web", "place"] (defScope s_place_number) := ⟨rfl, rfl, rfl, by decide +kernel, rfl, by decide +kernel, by decide +kernel⟩
def S_place_number : SpecD := fun ws μ R => ∃ (w : Wb) (p : Str) (j : Nat), ws = [.val (webD w), .val (.str p)] ∧ w.ps[j]? = some p ∧ (∀ i, i < j → w.ps[i]? ≠ some p) ∧ R (.val (.int (j : Int))) μ
theorem ok_place_number {m : Mo} (F : Stands m "place_number" s_place_number) : Callee m "place_number" 1 S_place_number := by
  refine callee_of F sc_place_number (ps := ["web", "place"]) (fun ws μ R h => by obtain ⟨d, _, _, rfl, _⟩ := h; rfl) (fun _ _ _ _ _ _ us hl => match us, hl with | [_, _], _ => rfl) fun X hm G fx hr ws μ R h => ?_
  subst hm
  obtain ⟨w, p, j, rfl, h1, h2, h⟩ := h
  exact s_one <| s_ret <| x_index <| x_web0 (w := w) <| x_v G 0 ⟨rfl, w.ps, rfl, x_v G 1 ⟨p, j, rfl, h1, h2, ret_val h⟩⟩
/-! ### weeks -/
def weekD (k : List (List Str)) : D := .tup (k.map fun r => .tup (r.map .str))
structure KOk (w : Wb) (k : List (List Str)) : Prop where
  lo : 1 ≤ k.length
  hi : k.length ≤ 4
  nd : ∀ r ∈ k, r.Nodup
  inn : ∀ r ∈ k, ∀ x ∈ r, x ∈ w.rs.map (·.1)
abbrev s_is_round : Stmt := top 35
theorem sc_is_round : FnScope ["web", "thing"] ["web", "thing"] (defScope s_is_round) := ⟨rfl, rfl, rfl, by decide +kernel, rfl, by decide +kernel, by decide +kernel⟩
def S_is_round : SpecD := fun ws μ R => ∃ (w : Wb) (r : List Str), ws = [.val (webD w), .val (.tup (r.map .str))] ∧ w.rs.length ≤ 40000 ∧ r.Nodup ∧ r.length ≤ 4000 ∧ (∀ x ∈ r, x ∈ w.rs.map (·.1)) ∧ R (.val (.bl true)) μ
theorem ok_is_round {m : Mo} (T : Tops m) (F : Stands m "is_round" s_is_round) (C1 : Callee m "are_of" 1 S_are_of) (C2 : Callee m "names_of_roads" 1 S_names_of_roads) : Callee m "is_round" 2 S_is_round := by
  refine callee_of F sc_is_round (ps := ["web", "thing"]) (fun ws μ R h => by obtain ⟨d, _, rfl, _⟩ := h; rfl) (fun _ _ _ _ _ _ us hl => match us, hl with | [_, _], _ => rfl) fun X hm G fx hr ws μ R h => ?_
  subst hm
  obtain ⟨w, r, rfl, h0, h1, h2, h3, h⟩ := h
  refine s_one <| s_ret <| x_and <| x_isi G T.isinstance T.tuple (by decide +kernel) <| x_v G 1 ⟨.tup (r.map .str), true, rfl, rfl, kit_tt, bb ⟨fun _ => ?_, fun k => nomatch k⟩⟩
  exact x_one <| x_call G C1 hr (by decide) <| a_cons <| x_v G 1 <| a_cons <| x_call G C2 hr (by decide) <| a_cons <| x_v G 0 <| a_nil ⟨w, rfl, h0, a_nil ⟨_, _, r, w.rs.map (·.1), rfl, tupT, .lst .lst, h1, h2, h3, ret_val h⟩⟩
abbrev s_need_week : Stmt := top 36
theorem sc_need_week : FnScope ["web", "week", "one"] ["web", "week"] (defScope s_need_week) := ⟨rfl, rfl, rfl, by decide +kernel, rfl, by decide +kernel, by decide +kernel⟩
def S_need_week : SpecD := fun ws μ R => ∃ w k, ws = [.val (webD w), .val (weekD k)] ∧ WOk w ∧ KOk w k ∧ R (.val .non) μ
theorem nodup_sub_len : ∀ {xs ys : List Str}, xs.Nodup → (∀ x ∈ xs, x ∈ ys) → xs.length ≤ ys.length
  | [], ys, _, _ => Nat.zero_le _
  | x :: r, ys, h1, h2 => by
    have hx := h2 x List.mem_cons_self
    rw [List.nodup_cons] at h1
    have ih := nodup_sub_len (xs := r) (ys := ys.erase x) h1.2 fun y hy => (List.mem_erase_of_ne (fun e => h1.1 (by rw [← e]; exact hy))).mpr (h2 y (List.mem_cons_of_mem _ hy))
    rw [List.length_erase_of_mem hx] at ih
    have := List.length_pos_of_mem hx
    rw [List.length_cons]
    omega
theorem ok_need_week {m : Mo} (T : Tops m) (F : Stands m "need_week" s_need_week) (C1 : Callee m "is_row_of" 1 S_is_row_of) (C2 : Callee m "is_round" 2 S_is_round) : Callee m "need_week" 3 S_need_week := by
  refine callee_of F sc_need_week (ps := ["web", "week"]) (fun ws μ R h => by obtain ⟨d, _, rfl, _⟩ := h; rfl) (fun _ _ _ _ _ _ us hl => match us, hl with | [_, _], _ => rfl) fun X hm G fx hr ws μ R h => ?_
  subst hm
  obtain ⟨w, k, rfl, ok, kk, h⟩ := h
  have hkl : (k.map fun r : List Str => D.tup (r.map .str)).length = k.length := List.length_map _
  have l1 := kk.lo
  have l2 := kk.hi
  have l3 := ok.rm
  refine s_one <| s_if <| t_or <| t_not <| t_val <| x_call G C1 hr (by decide) <| a_cons <| x_v G 1 <| a_cons <| x_int <| a_cons <| x_gint G T.MOST_ROUNDS <| a_nil ⟨weekD k, k.map fun r : List Str => .tup (r.map .str), 1, 4, rfl, tupT, by omega, by omega, bb ⟨fun _ => ?_, fun k => nomatch k⟩⟩
  refine w_or1 <| t_not <| t_val <| x_allT G T.all [("one", 2)] <| i_tup <| x_v G 1 ⟨weekD k, k.map fun r : List Str => .tup (r.map .str), rfl, tupT, by omega, trivial, fun i d hi b => ?_, bb ⟨(fun k => nomatch k), fun _ => s_nil (ret_val h)⟩⟩
  obtain ⟨r, e, rfl⟩ := maps_get hi
  have hm := List.mem_of_getElem? e
  have hl := nodup_sub_len (kk.nd r hm) (kk.inn r hm)
  rw [List.length_map] at hl
  exact c_name (G.bk rfl) 2 fun b => x_call (G.bk rfl) C2 hr (by decide) <| a_cons <| x_v (G.bk rfl) 0 <| a_cons <| x_v (G.bk rfl) 2 <| a_nil ⟨w, r, rfl, by omega, kk.nd r hm, by omega, kk.inn r hm, rfl, rfl⟩
abbrev s_round_of : Stmt := top 37
theorem sc_round_of : FnScope ["week", "day"] ["week", "day"] (defScope s_round_of) := ⟨rfl, rfl, rfl, by decide +kernel, rfl, by decide +kernel, by decide +kernel⟩
def rndOf (k : List (List Str)) (day : Int) : List Str := k.getD ((day - 1) % k.length).toNat []
theorem rndOf_mem {k : List (List Str)} {day : Int} (hk : 1 ≤ k.length) : rndOf k day ∈ k := by
  have h0 : 0 ≤ (day - 1) % (k.length : Int) := Int.emod_nonneg _ (by omega)
  have h1 : (day - 1) % (k.length : Int) < k.length := Int.emod_lt_of_pos _ (by omega)
  unfold rndOf
  rw [List.getD_eq_getElem?_getD, List.getElem?_eq_getElem (by omega), Option.getD_some]
  exact List.getElem_mem _
theorem at_rnd {k : List (List Str)} {day : Int} (hk : 1 ≤ k.length) : atI (k.map fun r : List Str => D.tup (r.map .str)) ((day - 1) % k.length) = some (.tup ((rndOf k day).map .str)) := by
  have h0 : 0 ≤ (day - 1) % (k.length : Int) := Int.emod_nonneg _ (by omega)
  have h1 : (day - 1) % (k.length : Int) < k.length := Int.emod_lt_of_pos _ (by omega)
  unfold atI ixN rndOf
  rw [List.length_map, if_pos h0, if_pos h1]
  show (k.map _)[((day - 1) % (k.length : Int)).toNat]? = _
  rw [List.getElem?_map, List.getD_eq_getElem?_getD, List.getElem?_eq_getElem (by omega)]
  rfl
def S_round_of : SpecD := fun ws μ R => ∃ (k : List (List Str)) (day : Int), ws = [.val (weekD k), .val (.int day)] ∧ 1 ≤ k.length ∧ R (.val (.tup ((rndOf k day).map .str))) μ
theorem ok_round_of {m : Mo} (T : Tops m) (F : Stands m "round_of" s_round_of) : Callee m "round_of" 1 S_round_of := by
  refine callee_of F sc_round_of (ps := ["week", "day"]) (fun ws μ R h => by obtain ⟨d, _, rfl, _⟩ := h; rfl) (fun _ _ _ _ _ _ us hl => match us, hl with | [_, _], _ => rfl) fun X hm G fx hr ws μ R h => ?_
  subst hm
  obtain ⟨k, day, rfl, hk, h⟩ := h
  refine s_one <| s_ret <| x_at <| x_v G 0 <| x_mod <| x_sub <| x_v G 1 <| x_int <| ii <| x_len G T.len <| x_v G 0 ⟨_, .tup tupT, ii ⟨?_, ⟨_, _, _, .tup tupT, rfl, ?_, ret_val h⟩⟩⟩
  · rw [List.length_map]; omega
  · rw [List.length_map]
    exact at_rnd hk
abbrev s_is_moment : Stmt := top 38
theorem sc_is_moment : FnScope ["week", "thing"] ["week", "thing"] (defScope s_is_moment) := ⟨rfl, rfl, rfl, by decide +kernel, rfl, by decide +kernel, by decide +kernel⟩
structure MomOk (k : List (List Str)) (d i : Int) : Prop where
  d1 : 1 ≤ d
  d2 : d ≤ 1000000
  i1 : 0 ≤ i
  i2 : i ≤ (rndOf k d).length
def S_is_moment : SpecD := fun ws μ R => ∃ (k : List (List Str)) (d i : Int), ws = [.val (weekD k), .val (mom d i)] ∧ 1 ≤ k.length ∧ MomOk k d i ∧ R (.val (.bl true)) μ
theorem ok_is_moment {m : Mo} (T : Tops m) (F : Stands m "is_moment" s_is_moment) (C1 : Callee m "is_row_of" 1 S_is_row_of) (C2 : Callee m "is_within" 2 S_is_within) (C3 : Callee m "round_of" 1 S_round_of) : Callee m "is_moment" 3 S_is_moment := by
  refine callee_of F sc_is_moment (ps := ["week", "thing"]) (fun ws μ R h => by obtain ⟨d, _, _, rfl, _⟩ := h; rfl) (fun _ _ _ _ _ _ us hl => match us, hl with | [_, _], _ => rfl) fun X hm G fx hr ws μ R h => ?_
  subst hm
  obtain ⟨k, d, i, rfl, hk, hm, h⟩ := h
  refine s_cons <| s_if <| t_or <| t_not <| t_val <| x_call G C1 hr (by decide) <| a_cons <| x_v G 1 <| a_cons <| x_int <| a_cons <| x_int <| a_nil ⟨_, _, 2, 2, rfl, tupT, Int.le_refl _, Int.le_refl _, bb ⟨fun _ => ?_, fun k => nomatch k⟩⟩
  refine w_or1 <| t_not <| t_val <| x_call G C2 hr (by decide) <| a_cons <| x_at <| x_v G 1 <| x_int ⟨_, 0, .int d, .tup tupT, rfl, rfl, a_cons <| x_int <| a_cons <| x_gint G T.MOST_DAY <| a_nil ⟨d, 1, 1000000, rfl, bb ⟨fun q => ?_, fun _ => s_nil ?_⟩⟩⟩
  · rw [decide_eq_true hm.d1, decide_eq_true hm.d2] at q; cases q
  · refine s_one <| s_ret <| x_call G C2 hr (by decide) <| a_cons <| x_at <| x_v G 1 <| x_int ⟨_, 1, .int i, .tup tupT, rfl, rfl, a_cons <| x_int <| a_cons <| x_len G T.len <| x_call G C3 hr (by decide) <| a_cons <| x_v G 0 <| a_cons <| x_at <| x_v G 1 <| x_int ⟨_, 0, .int d, .tup tupT, rfl, rfl, a_nil ⟨k, d, rfl, hk, _, .tup tupT, a_nil ⟨i, 0, _, rfl, ret_val ?_⟩⟩⟩⟩
    rw [List.length_map, decide_eq_true hm.i1, decide_eq_true hm.i2]
    exact h
abbrev s_need_moment : Stmt := top 39
theorem sc_need_moment : FnScope ["web", "week", "moment"] ["web", "week", "moment"] (defScope s_need_moment) := ⟨rfl, rfl, rfl, by decide +kernel, rfl, by decide +kernel, by decide +kernel⟩
def S_need_moment : SpecD := fun ws μ R => ∃ (w : Wb) (k : List (List Str)) (d i : Int), ws = [.val (webD w), .val (weekD k), .val (mom d i)] ∧ WOk w ∧ KOk w k ∧ MomOk k d i ∧ R (.val .non) μ
theorem ok_need_moment {m : Mo} (F : Stands m "need_moment" s_need_moment) (C1 : Callee m "need_week" 3 S_need_week) (C2 : Callee m "is_moment" 3 S_is_moment) : Callee m "need_moment" 4 S_need_moment := by
  refine callee_of F sc_need_moment (ps := ["web", "week", "moment"]) (fun ws μ R h => by obtain ⟨d, _, _, _, rfl, _⟩ := h; rfl) (fun _ _ _ _ _ _ us hl => match us, hl with | [_, _, _], _ => rfl) fun X hm G fx hr ws μ R h => ?_
  subst hm
  obtain ⟨w, k, d, i, rfl, ok, kk, hm, h⟩ := h
  refine s_cons <| s_expr <| x_call G C1 hr (by decide) <| a_cons <| x_v G 0 <| a_cons <| x_v G 1 <| a_nil ⟨w, k, rfl, ok, kk, ?_⟩
  exact s_one <| s_if <| t_not <| t_val <| x_call G C2 hr (by decide) <| a_cons <| x_v G 1 <| a_cons <| x_v G 2 <| a_nil ⟨k, d, i, rfl, kk.lo, hm, bb ⟨(fun k => nomatch k), fun _ => s_nil (ret_val h)⟩⟩
end DL
set_option Elab.async false
set_option linter.all false
set_option maxRecDepth 100000
set_option maxHeartbeats 2000000
/-! M1: the plain law of news: dicts, what is reached, the days. -/
namespace DL
open PySem
/-! ### dicts -/
section
variable {κ β κ' β' : Type} [DecidableEq κ] [DecidableEq κ']
theorem kget_map (g : κ → κ') (hg : ∀ a b, g a = g b → a = b) (h : β → β') (k : κ) : ∀ ds : List (κ × β), kget (ds.map fun p => (g p.1, h p.2)) (g k) = (kget ds k).map h
  | [] => rfl
  | p :: r => by
    show (if g p.1 = g k then some (h p.2) else kget (r.map fun p => (g p.1, h p.2)) (g k)) = (if p.1 = k then some p.2 else kget r k).map h
    by_cases e : p.1 = k
    · rw [if_pos e, if_pos (by rw [e])]; rfl
    · rw [if_neg e, if_neg (fun z => e (hg _ _ z))]; exact kget_map g hg h k r
theorem kset_map (g : κ → κ') (hg : ∀ a b, g a = g b → a = b) (h : β → β') (k : κ) (v : β) : ∀ ds : List (κ × β), kset (ds.map fun p => (g p.1, h p.2)) (g k) (h v) = (kset ds k v).map fun p => (g p.1, h p.2)
  | [] => rfl
  | p :: r => by
    show (if g p.1 = g k then (g p.1, h v) else (g p.1, h p.2)) :: kset (r.map fun p => (g p.1, h p.2)) (g k) (h v) = ((if p.1 = k then (p.1, v) else p) :: kset r k v).map fun p => (g p.1, h p.2)
    rw [kset_map g hg h k v r, List.map_cons]
    congr 1
    by_cases e : p.1 = k
    · rw [if_pos e, if_pos (by rw [e])]
    · rw [if_neg e, if_neg (fun z => e (hg _ _ z))]
theorem kput_map (g : κ → κ') (hg : ∀ a b, g a = g b → a = b) (h : β → β') (k : κ) (v : β) (ds : List (κ × β)) : kput (ds.map fun p => (g p.1, h p.2)) (g k) (h v) = (kput ds k v).map fun p => (g p.1, h p.2) := by
  unfold kput khas
  rw [kget_map g hg h k ds, kset_map g hg h k v ds]
  cases kget ds k <;> simp
theorem kget_none {k : κ} : ∀ {ds : List (κ × β)}, kget ds k = none ↔ k ∉ ds.map Prod.fst
  | [] => by simp [kget]
  | p :: r => by
    show (if p.1 = k then some p.2 else kget r k) = none ↔ _
    by_cases e : p.1 = k
    · rw [if_pos e]; simp [e]
    · rw [if_neg e, kget_none (ds := r)]
      simp [Ne.symm e]
theorem khas_iff {k : κ} {ds : List (κ × β)} : khas ds k = true ↔ k ∈ ds.map Prod.fst := by
  unfold khas
  have := kget_none (k := k) (ds := ds)
  cases e : kget ds k with
  | none => rw [e] at this; simp only [true_iff] at this; simp [this]
  | some v =>
    rw [e] at this
    have h2 : ¬ k ∉ ds.map Prod.fst := fun z => by have := this.mpr z; cases this
    simp only [Option.isSome_some, true_iff]
    exact Classical.not_not.mp h2
theorem kput_new {k : κ} {v : β} {ds : List (κ × β)} (h : k ∉ ds.map Prod.fst) : kput ds k v = ds ++ [(k, v)] := by
  unfold kput khas
  rw [kget_none.mpr h]
  rfl
theorem kget_app {k : κ} {v : β} : ∀ {ds : List (κ × β)} {j : κ}, k ∉ ds.map Prod.fst → kget (ds ++ [(k, v)]) j = if j = k then some v else kget ds j
  | [], j, _ => by
    show (if k = j then some v else none) = _
    by_cases e : j = k
    · rw [if_pos e, if_pos e.symm]
    · rw [if_neg e, if_neg (Ne.symm e)]; rfl
  | p :: r, j, h => by
    rw [List.map_cons, List.mem_cons, not_or] at h
    show (if p.1 = j then some p.2 else kget (r ++ [(k, v)]) j) = if j = k then some v else (if p.1 = j then some p.2 else kget r j)
    rw [kget_app h.2]
    by_cases e : p.1 = j
    · rw [if_pos e, if_pos e, if_neg (fun z => h.1 (by rw [← z, e]))]
    · rw [if_neg e, if_neg e]
theorem kputs_nodup : ∀ {more ds : List (κ × β)}, ((ds ++ more).map Prod.fst).Nodup → kputs ds more = ds ++ more
  | [], ds, _ => by simp [kputs]
  | p :: r, ds, h => by
    show kputs (kput ds p.1 p.2) r = _
    have h1 : p.1 ∉ ds.map Prod.fst := by
      rw [List.map_append, List.map_cons] at h
      intro z
      exact (List.nodup_append.mp h).2.2 _ z _ List.mem_cons_self rfl
    rw [kput_new h1, kputs_nodup (by rw [List.append_assoc]; exact h), List.append_assoc]
    rfl
theorem kget_mem {k : κ} {v : β} : ∀ {ds : List (κ × β)}, (ds.map Prod.fst).Nodup → (k, v) ∈ ds → kget ds k = some v
  | p :: r, hn, h => by
    rw [List.map_cons, List.nodup_cons] at hn
    rcases List.mem_cons.mp h with e | e
    · subst e; simp [kget]
    · show (if p.1 = k then some p.2 else kget r k) = some v
      rw [if_neg (fun z => hn.1 (by rw [z]; exact List.mem_map.mpr ⟨_, e, rfl⟩))]
      exact kget_mem hn.2 e
theorem kget_some_mem {k : κ} {v : β} : ∀ {ds : List (κ × β)}, kget ds k = some v → (k, v) ∈ ds
  | p :: r, h => by
    have h : (if p.1 = k then some p.2 else kget r k) = some v := h
    by_cases e : p.1 = k
    · rw [if_pos e] at h
      cases h
      rw [← e]
      exact List.mem_cons_self
    · rw [if_neg e] at h
      exact List.mem_cons_of_mem _ (kget_some_mem h)
end
/-! ### the ends of a road -/
def endOf (w : Wb) (n : Str) : Str × Str := ((w.rs.find? fun r => decide (r.1 = n)).map (·.2)).getD (Str.empty, Str.empty)
def endsT (w : Wb) : List (Str × (Str × Str)) := w.rs.map fun r => (r.1, r.2)
theorem endOf_get {w : Wb} {n : Str} : kget (endsT w) n = (w.rs.find? fun r => decide (r.1 = n)).map (·.2) := by
  unfold endsT
  generalize w.rs = l
  induction l with
  | nil => rfl
  | cons r l ih =>
    show (if r.1 = n then some r.2 else kget (l.map fun r => (r.1, r.2)) n) = _
    rw [List.find?_cons]
    by_cases e : r.1 = n
    · rw [if_pos e, decide_eq_true e]; rfl
    · rw [if_neg e, decide_eq_false e]; exact ih
theorem endOf_mem {w : Wb} {n : Str} (h : n ∈ w.rs.map (·.1)) : kget (endsT w) n = some (endOf w n) ∧ ∃ r ∈ w.rs, r.1 = n ∧ endOf w n = r.2 := by
  rw [endOf_get]
  unfold endOf
  obtain ⟨r, hr, e⟩ := List.mem_map.mp h
  cases q : w.rs.find? fun r => decide (r.1 = n) with
  | none =>
    have := List.find?_eq_none.mp q r hr
    simp [e] at this
  | some r' =>
    have h1 := List.find?_some q
    have h2 := List.mem_of_find?_eq_some q
    exact ⟨rfl, r', h2, by simpa using h1, rfl⟩
theorem endOf_road {w : Wb} (hn : (w.rs.map (·.1)).Nodup) {r : Str × Str × Str} (hr : r ∈ w.rs) : endOf w r.1 = r.2 := by
  obtain ⟨h1, _⟩ := endOf_mem (List.mem_map.mpr ⟨r, hr, rfl⟩)
  have h2 : kget (endsT w) r.1 = some r.2 := kget_mem (by unfold endsT; rw [List.map_map]; exact hn) (by unfold endsT; exact List.mem_map.mpr ⟨r, hr, rfl⟩)
  rw [h1] at h2
  exact Option.some.inj h2
/-! ### what news reaches -/
def ins (N : List Str) (x : Str) : List Str := if x ∈ N then N else N ++ [x]
def swp1 (N : List Str) (e : Str × Str) : List Str := if e.1 ∈ N ∨ e.2 ∈ N then ins (ins N e.1) e.2 else N
def swp (E : List (Str × Str)) (N : List Str) : List Str := E.foldl swp1 N
theorem ins_app (N : List Str) (x : Str) : ∃ t, ins N x = N ++ t := by
  unfold ins
  split
  · exact ⟨[], by simp⟩
  · exact ⟨[x], rfl⟩
theorem swp1_app (N : List Str) (e : Str × Str) : ∃ t, swp1 N e = N ++ t := by
  unfold swp1
  split
  · obtain ⟨t, h⟩ := ins_app N e.1
    obtain ⟨t', h'⟩ := ins_app (ins N e.1) e.2
    exact ⟨t ++ t', by rw [h', h, List.append_assoc]⟩
  · exact ⟨[], by simp⟩
theorem swp_app : ∀ (E : List (Str × Str)) (N : List Str), ∃ t, swp E N = N ++ t
  | [], N => ⟨[], by simp [swp]⟩
  | e :: E, N => by
    obtain ⟨t, h⟩ := swp1_app N e
    obtain ⟨t', h'⟩ := swp_app E (swp1 N e)
    exact ⟨t ++ t', by show swp E (swp1 N e) = _; rw [h', h, List.append_assoc]⟩
theorem swp_snoc (E : List (Str × Str)) (e : Str × Str) (N : List Str) : swp (E ++ [e]) N = swp1 (swp E N) e := by simp [swp, List.foldl_append]
theorem ins_nodup {N : List Str} {x : Str} (h : N.Nodup) : (ins N x).Nodup := by
  unfold ins
  split
  · exact h
  · rename_i hx
    exact List.nodup_append.mpr ⟨h, by simp, fun a ha b hb e => hx (by rw [List.mem_singleton.mp hb] at e; rw [← e]; exact ha)⟩
theorem swp1_nodup {N : List Str} {e : Str × Str} (h : N.Nodup) : (swp1 N e).Nodup := by
  unfold swp1
  split
  · exact ins_nodup (ins_nodup h)
  · exact h
theorem swp_nodup : ∀ {E : List (Str × Str)} {N : List Str}, N.Nodup → (swp E N).Nodup
  | [], _, h => h
  | _ :: E, _, h => swp_nodup (E := E) (swp1_nodup h)
theorem mem_ins {N : List Str} {x y : Str} (h : y ∈ ins N x) : y ∈ N ∨ y = x := by
  unfold ins at h
  split at h
  · exact .inl h
  · simpa using h
theorem swp_keeps {S : Str → Prop} : ∀ {E : List (Str × Str)} {N : List Str}, (∀ e ∈ E, S e.1 ↔ S e.2) → (∀ x ∈ N, S x) → ∀ x ∈ swp E N, S x
  | [], _, _, h => h
  | e :: E, N, hE, h => by
    refine swp_keeps (E := E) (fun e' he => hE e' (List.mem_cons_of_mem _ he)) fun x hx => ?_
    have he := hE e List.mem_cons_self
    unfold swp1 at hx
    split at hx
    · rename_i hc
      have h1 : S e.1 := hc.elim (h _) fun z => he.mpr (h _ z)
      rcases mem_ins hx with z | z
      · rcases mem_ins z with z | z
        · exact h x z
        · rw [z]; exact h1
      · rw [z]; exact he.mp h1
    · exact h x hx
theorem mem_ins_self {N : List Str} {x : Str} : x ∈ ins N x := by
  unfold ins
  split
  · assumption
  · simp
theorem app_len {t N M : List Str} (h : M = N ++ t) (hl : M.length = N.length) : M = N := by
  rw [h, List.length_append] at hl
  have : t = [] := List.length_eq_zero_iff.mp (by omega)
  rw [h, this, List.append_nil]
theorem swp_closed : ∀ {E : List (Str × Str)} {N : List Str}, (swp E N).length = N.length → ∀ e ∈ E, e.1 ∈ N ↔ e.2 ∈ N
  | e :: E, N, hl, e', he => by
    obtain ⟨t, h⟩ := swp1_app N e
    obtain ⟨t', h'⟩ := swp_app E (swp1 N e)
    have hl : (swp E (swp1 N e)).length = N.length := hl
    have l1 : (swp1 N e).length = N.length := by
      have a := congrArg List.length h
      have b := congrArg List.length h'
      rw [List.length_append] at a b
      omega
    have e1 := app_len h l1
    rcases List.mem_cons.mp he with z | z
    · subst z
      have key : (e'.1 ∈ N ∨ e'.2 ∈ N) → e'.1 ∈ N ∧ e'.2 ∈ N := fun hc => by
        unfold swp1 at e1
        rw [if_pos hc] at e1
        obtain ⟨t2, h2⟩ := ins_app (ins N e'.1) e'.2
        constructor
        · rw [← e1, h2]; exact List.mem_append_left _ mem_ins_self
        · rw [← e1]; exact mem_ins_self
      exact ⟨fun z => (key (.inl z)).2, fun z => (key (.inr z)).1⟩
    · rw [e1] at hl
      exact swp_closed hl e' z
/-- the pairs of the roads of the week -/
def wkE (w : Wb) (k : List (List Str)) : List (Str × Str) := k.flatMap fun r => r.map (endOf w)
structure NewsOk (w : Wb) (k : List (List Str)) (p : Str) (N : List Str) : Prop where
  nd : N.Nodup
  at_ : p ∈ N
  closed : ∀ e ∈ wkE w k, e.1 ∈ N ↔ e.2 ∈ N
  least : ∀ S : Str → Prop, S p → (∀ e ∈ wkE w k, S e.1 ↔ S e.2) → ∀ x ∈ N, S x
theorem NewsOk.len {w : Wb} {k : List (List Str)} {p : Str} {N N' : List Str} (h : NewsOk w k p N) (h' : NewsOk w k p N') : N.length = N'.length :=
  Nat.le_antisymm (nodup_sub_len h.nd (h.least (· ∈ N') h'.at_ h'.closed)) (nodup_sub_len h'.nd (h'.least (· ∈ N) h.at_ h.closed))
/-! ### the days -/
abbrev Fnd := List (Str × (Int × Int))
def stepA (w : Wb) (day first : Int) (i : Nat) (r : Str) (f : Fnd) : Fnd :=
  if first ≤ (i : Int) ∧ khas f (endOf w r).1 ≠ khas f (endOf w r).2 then kput f (if khas f (endOf w r).1 = true then (endOf w r).2 else (endOf w r).1) (day, (i : Int) + 1) else f
def goA (w : Wb) (day first : Int) : Nat → List Str → Fnd → Fnd
  | _, [], f => f
  | i, r :: rs, f => goA w day first (i + 1) rs (stepA w day first i r f)
theorem goA_snoc (w : Wb) (day first : Int) (r : Str) : ∀ (rs : List Str) (i : Nat) (f : Fnd), goA w day first i (rs ++ [r]) f = stepA w day first (i + rs.length) r (goA w day first i rs f)
  | [], i, f => rfl
  | x :: rs, i, f => by
    show goA w day first (i + 1) (rs ++ [r]) (stepA w day first i x f) = _
    rw [goA_snoc w day first r rs (i + 1), List.length_cons, show i + 1 + rs.length = i + (rs.length + 1) by omega]
    rfl
/-- the day, the first index, what is found, after t days -/
def stA (w : Wb) (k : List (List Str)) (p : Str) (d i : Int) : Nat → Int × Int × Fnd
  | 0 => (d, i, [(p, (d, i))])
  | t + 1 => ((stA w k p d i t).1 + 1, 0, goA w (stA w k p d i t).1 (stA w k p d i t).2.1 0 (rndOf k (stA w k p d i t).1) (stA w k p d i t).2.2)
/-- a step adds one, or nothing -/
theorem stepA_app (w : Wb) (day first : Int) (i : Nat) (r : Str) (f : Fnd) : stepA w day first i r f = f ∨ ∃ x, x ∉ f.map Prod.fst ∧ first ≤ (i : Int) ∧ stepA w day first i r f = f ++ [(x, (day, (i : Int) + 1))] := by
  unfold stepA
  by_cases h : first ≤ (i : Int) ∧ khas f (endOf w r).1 ≠ khas f (endOf w r).2
  · rw [if_pos h]
    right
    by_cases h1 : khas f (endOf w r).1 = true
    · rw [if_pos h1]
      have h2 : (endOf w r).2 ∉ f.map Prod.fst := fun z => h.2 (by rw [h1, khas_iff.mpr z])
      exact ⟨_, h2, h.1, kput_new h2⟩
    · rw [if_neg h1]
      have h2 : (endOf w r).1 ∉ f.map Prod.fst := fun z => h1 (khas_iff.mpr z)
      exact ⟨_, h2, h.1, kput_new h2⟩
  · rw [if_neg h]; exact .inl rfl
theorem stepA_pre (w : Wb) (day first : Int) (i : Nat) (r : Str) (f : Fnd) : ∃ t, stepA w day first i r f = f ++ t := by
  rcases stepA_app w day first i r f with e | ⟨x, _, _, e⟩
  · exact ⟨[], by rw [e]; simp⟩
  · exact ⟨_, e⟩
theorem goA_pre (w : Wb) (day first : Int) : ∀ (rs : List Str) (i : Nat) (f : Fnd), ∃ t, goA w day first i rs f = f ++ t
  | [], i, f => ⟨[], by simp [goA]⟩
  | r :: rs, i, f => by
    obtain ⟨t, h⟩ := stepA_pre w day first i r f
    obtain ⟨t', h'⟩ := goA_pre w day first rs (i + 1) (stepA w day first i r f)
    exact ⟨t ++ t', by show goA w day first (i + 1) rs (stepA w day first i r f) = _; rw [h', h, List.append_assoc]⟩
theorem stA_pre (w : Wb) (k : List (List Str)) (p : Str) (d i : Int) (t : Nat) : ∀ s, ∃ u, (stA w k p d i (t + s)).2.2 = (stA w k p d i t).2.2 ++ u
  | 0 => ⟨[], by simp⟩
  | s + 1 => by
    obtain ⟨u, h⟩ := stA_pre w k p d i t s
    obtain ⟨u', h'⟩ := goA_pre w (stA w k p d i (t + s)).1 (stA w k p d i (t + s)).2.1 (rndOf k (stA w k p d i (t + s)).1) 0 (stA w k p d i (t + s)).2.2
    exact ⟨u ++ u', by rw [← List.append_assoc, ← h]; exact h'⟩
/-- what holds of a found through steps -/
theorem goA_ind (w : Wb) (day first : Int) (P : Fnd → Prop) (hs : ∀ (i : Nat) (r : Str) (f : Fnd), P f → P (stepA w day first i r f)) : ∀ (rs : List Str) (i : Nat) (f : Fnd), P f → P (goA w day first i rs f)
  | [], _, _, h => h
  | r :: rs, i, f, h => goA_ind w day first P hs rs (i + 1) _ (hs i r f h)
def FOk (w : Wb) (p : Str) (f : Fnd) : Prop := (f.map Prod.fst).Nodup ∧ p ∈ f.map Prod.fst
theorem stepA_ok {w : Wb} {p : Str} {day first : Int} {i : Nat} {r : Str} {f : Fnd} (h : FOk w p f) : FOk w p (stepA w day first i r f) := by
  rcases stepA_app w day first i r f with e | ⟨x, hx, _, e⟩
  · rw [e]; exact h
  · rw [e]
    refine ⟨?_, by rw [List.map_append]; exact List.mem_append_left _ h.2⟩
    rw [List.map_append]
    exact List.nodup_append.mpr ⟨h.1, by simp, fun a ha b hb z => by
      have hb' : b = x := by simpa using hb
      rw [z, hb'] at ha
      exact hx ha⟩
theorem stA_ok (w : Wb) (k : List (List Str)) (p : Str) (d i : Int) : ∀ t, FOk w p (stA w k p d i t).2.2
  | 0 => ⟨by simp [stA], by simp [stA]⟩
  | t + 1 => goA_ind w _ _ (FOk w p) (fun _ _ _ h => stepA_ok h) _ _ _ (stA_ok w k p d i t)
/-- a road with one end found is walked -/
theorem goA_grows (w : Wb) (day : Int) {r : Str} {f : Fnd} (hc : khas f (endOf w r).1 ≠ khas f (endOf w r).2) : ∀ (rs : List Str) (i : Nat), r ∈ rs → f.length < (goA w day 0 i rs f).length
  | x :: rs, i, hr => by
    show f.length < (goA w day 0 (i + 1) rs (stepA w day 0 i x f)).length
    obtain ⟨t, h⟩ := goA_pre w day 0 rs (i + 1) (stepA w day 0 i x f)
    rcases stepA_app w day 0 i x f with e | ⟨y, _, _, e⟩
    · rw [e]
      rcases List.mem_cons.mp hr with z | z
      · subst z
        exfalso
        have hh : stepA w day 0 i r f ≠ f := by
          unfold stepA
          rw [if_pos ⟨by omega, hc⟩]
          intro z
          have hx : (if khas f (endOf w r).1 = true then (endOf w r).2 else (endOf w r).1) ∉ f.map Prod.fst := by
            by_cases h1 : khas f (endOf w r).1 = true
            · rw [if_pos h1]
              exact fun q => hc (by rw [h1, khas_iff.mpr q])
            · rw [if_neg h1]
              exact fun q => h1 (khas_iff.mpr q)
          rw [kput_new hx] at z
          have := congrArg List.length z
          simp at this
        exact hh e
      · exact goA_grows w day hc rs (i + 1) z
    · rw [h, e, List.length_append, List.length_append, List.length_singleton]
      omega
theorem stA_day (w : Wb) (k : List (List Str)) (p : Str) (d i : Int) : ∀ t : Nat, (stA w k p d i t).1 = d + t
  | 0 => by simp [stA]
  | t + 1 => by
    show (stA w k p d i t).1 + 1 = _
    rw [stA_day w k p d i t]
    omega
theorem row_comes {k : List (List Str)} {r : List Str} (hr : r ∈ k) (d : Int) : ∃ s : Nat, rndOf k (d + s) = r := by
  obtain ⟨j, hj, e⟩ := List.getElem_of_mem hr
  have hk : (0 : Int) < k.length := by omega
  refine ⟨(((j : Int) - (d - 1)) % k.length).toNat, ?_⟩
  have h0 : 0 ≤ ((j : Int) - (d - 1)) % k.length := Int.emod_nonneg _ (by omega)
  unfold rndOf
  have h1 : (d + ((((j : Int) - (d - 1)) % k.length).toNat : Int) - 1) % k.length = j := by
    rw [Int.toNat_of_nonneg h0, show d + ((j : Int) - (d - 1)) % k.length - 1 = (d - 1) + ((j : Int) - (d - 1)) % k.length by omega, Int.add_emod_emod, show d - 1 + ((j : Int) - (d - 1)) = j by omega]
    exact Int.emod_eq_of_lt (by omega) (by omega)
  rw [h1, Int.toNat_natCast, List.getD_eq_getElem?_getD, List.getElem?_eq_getElem hj, Option.getD_some, e]
theorem first_zero (w : Wb) (k : List (List Str)) (p : Str) (d i : Int) (t : Nat) : (stA w k p d i (t + 1)).2.1 = 0 := rfl
theorem stA_more {w : Wb} {k : List (List Str)} {p : Str} {d i : Int} {N : List Str} (hN : NewsOk w k p N) (t : Nat) (ht : 1 ≤ t) (hl : (stA w k p d i t).2.2.length < N.length) : ∃ s, (stA w k p d i t).2.2.length < (stA w k p d i s).2.2.length ∧ t ≤ s := by
  obtain ⟨hnd, hp⟩ := stA_ok w k p d i t
  -- a road with one end found
  have hx : ∃ r ∈ k, ∃ n ∈ r, khas (stA w k p d i t).2.2 (endOf w n).1 ≠ khas (stA w k p d i t).2.2 (endOf w n).2 := by
    refine Classical.byContradiction fun hno => ?_
    have hcl : ∀ e ∈ wkE w k, (e.1 ∈ (stA w k p d i t).2.2.map Prod.fst) ↔ (e.2 ∈ (stA w k p d i t).2.2.map Prod.fst) := fun e he => by
      unfold wkE at he
      obtain ⟨r, hr, he⟩ := List.mem_flatMap.mp he
      obtain ⟨n, hn, rfl⟩ := List.mem_map.mp he
      have : khas (stA w k p d i t).2.2 (endOf w n).1 = khas (stA w k p d i t).2.2 (endOf w n).2 := Classical.byContradiction fun z => hno ⟨r, hr, n, hn, z⟩
      rw [← khas_iff, ← khas_iff, this]
    have := nodup_sub_len hN.nd (hN.least (· ∈ (stA w k p d i t).2.2.map Prod.fst) hp hcl)
    rw [List.length_map] at this
    omega
  obtain ⟨r, hr, n, hn, hc⟩ := hx
  obtain ⟨s, hs⟩ := row_comes hr (stA w k p d i t).1
  obtain ⟨u, hu⟩ := stA_pre w k p d i t s
  by_cases he : u = []
  · rw [he, List.append_nil] at hu
    refine ⟨t + s + 1, ?_, by omega⟩
    obtain ⟨t', e⟩ : ∃ t', t + s = t' + 1 := ⟨t + s - 1, by omega⟩
    show _ < (goA w (stA w k p d i (t + s)).1 (stA w k p d i (t + s)).2.1 0 (rndOf k (stA w k p d i (t + s)).1) (stA w k p d i (t + s)).2.2).length
    have e1 : (stA w k p d i (t + s)).2.1 = 0 := by rw [e]; rfl
    have e2 : rndOf k (stA w k p d i (t + s)).1 = r := by
      rw [stA_day, ← hs, stA_day]
      congr 1
      push_cast
      omega
    rw [e1, e2, hu]
    exact goA_grows w _ hc r 0 hn
  · refine ⟨t + s, ?_, by omega⟩
    rw [hu, List.length_append]
    have : 0 < u.length := List.length_pos_iff.mpr he
    omega
theorem stA_ends {w : Wb} {k : List (List Str)} {p : Str} {d i : Int} {N : List Str} (hN : NewsOk w k p N) : ∃ T, N.length ≤ (stA w k p d i T).2.2.length := by
  have key : ∀ n t, 1 ≤ t → N.length ≤ (stA w k p d i t).2.2.length + n → ∃ T, N.length ≤ (stA w k p d i T).2.2.length := by
    intro n
    induction n with
    | zero => intro t _ h; exact ⟨t, h⟩
    | succ n ih =>
      intro t ht h
      by_cases hl : (stA w k p d i t).2.2.length < N.length
      · obtain ⟨s, h1, h2⟩ := stA_more hN t ht hl
        exact ih s (by omega) (by omega)
      · exact ⟨t, by omega⟩
  exact key N.length 1 (Nat.le_refl _) (by omega)
/-- what arrivals_from ends with -/
def IsArr (w : Wb) (k : List (List Str)) (p : Str) (d i : Int) (T : Nat) : Prop := ∃ N, NewsOk w k p N ∧ N.length ≤ (stA w k p d i T).2.2.length ∧ ∀ t, t < T → (stA w k p d i t).2.2.length < N.length
theorem isArr_one {w : Wb} {k : List (List Str)} {p : Str} {d i : Int} {T T' : Nat} (h : IsArr w k p d i T) (h' : IsArr w k p d i T') : T = T' := by
  obtain ⟨N, h1, h2, h3⟩ := h
  obtain ⟨N', h1', h2', h3'⟩ := h'
  have e := h1.len h1'
  rcases Nat.lt_trichotomy T T' with z | z | z
  · have := h3' T z; omega
  · exact z
  · have := h3 T' z; omega
theorem least_nat (P : Nat → Prop) : (∃ n, P n) → ∃ n, P n ∧ ∀ m, m < n → ¬ P m := by
  rintro ⟨n, hn⟩
  induction n using Nat.strongRecOn with
  | _ n ih =>
    by_cases h : ∃ m, m < n ∧ P m
    · obtain ⟨m, hm, hp⟩ := h
      exact ih m hm hp
    · exact ⟨n, hn, fun m hm hp => h ⟨m, hm, hp⟩⟩
theorem isArr_ex {w : Wb} {k : List (List Str)} {p : Str} {d i : Int} {N : List Str} (hN : NewsOk w k p N) : ∃ T, IsArr w k p d i T ∧ N.length ≤ (stA w k p d i T).2.2.length ∧ ∀ t, t < T → (stA w k p d i t).2.2.length < N.length := by
  obtain ⟨T, h1, h2⟩ := least_nat (fun T => N.length ≤ (stA w k p d i T).2.2.length) (stA_ends hN)
  exact ⟨T, ⟨N, hN, h1, fun t ht => by have := h2 t ht; omega⟩, h1, fun t ht => by have := h2 t ht; omega⟩
open Classical in
noncomputable def arrF (w : Wb) (k : List (List Str)) (p : Str) (d i : Int) : Fnd := if h : ∃ T, IsArr w k p d i T then (stA w k p d i (choose h)).2.2 else []
theorem arrF_eq {w : Wb} {k : List (List Str)} {p : Str} {d i : Int} {T : Nat} (h : IsArr w k p d i T) : arrF w k p d i = (stA w k p d i T).2.2 := by
  unfold arrF
  have hx : ∃ T, IsArr w k p d i T := ⟨T, h⟩
  rw [dif_pos hx, isArr_one (Classical.choose_spec hx) h]
end DL
set_option Elab.async false
set_option linter.all false
set_option maxRecDepth 100000
set_option maxHeartbeats 2000000
namespace DL
open PySem PySem.Spec PyProof.Rows L2
/-- an if whose test changes nothing -/
theorem s_ifB {X : Cx} {δ : DS} {μ : List M} {DD : DE} {c : Expr} {sts sts' : List Stmt} {pos : Pos} (b0 : Bool) (h : WT X c δ μ fun k μ1 => k = b0 ∧ μ1 = μ) (ht : b0 = true → WSs X sts δ μ DD) (hf : b0 = false → WSs X sts' δ μ DD) : WS X (.If c sts sts' pos) δ μ DD :=
  s_if (EvT.mono h fun k μ1 ⟨e1, e2⟩ => by subst e1 e2; exact ⟨ht, hf⟩)
def pairD (e : Str × Str) : D := .tup [.str e.1, .str e.2]
def endsD (w : Wb) : List (Key × D) := (endsT w).map fun p => (.inr p.1, pairD p.2)
theorem inr_inj (a b : Str) (h : (Sum.inr a : Key) = .inr b) : a = b := by cases h; rfl
theorem endsD_get {w : Wb} {n : Str} (h : n ∈ w.rs.map (·.1)) : kget (endsD w) (.inr n) = some (pairD (endOf w n)) := by
  unfold endsD
  rw [kget_map (fun x : Str => (Sum.inr x : Key)) inr_inj pairD n (endsT w), (endOf_mem h).1]
  rfl
abbrev s_ends_by_road : Stmt := top 41
theorem sc_ends_by_road : FnScope ["web", "name", "one", "other"] ["web"] (defScope s_ends_by_road) := ⟨rfl, rfl, rfl, by decide +kernel, rfl, by decide +kernel, by decide +kernel⟩
def S_ends_by_road : SpecD := fun ws μ R => ∃ w, ws = [.val (webD w)] ∧ WOk w ∧ R (.val (.dK (endsD w))) μ
theorem ok_ends_by_road {m : Mo} (F : Stands m "ends_by_road" s_ends_by_road) : Callee m "ends_by_road" 1 S_ends_by_road := by
  refine callee_of F sc_ends_by_road (ps := ["web"]) (fun ws μ R h => by obtain ⟨d, rfl, _⟩ := h; rfl) (fun _ _ _ _ _ _ us hl => match us, hl with | [_], _ => rfl) fun X hm G fx hr ws μ R h => ?_
  subst hm
  obtain ⟨w, rfl, ok, h⟩ := h
  have l3 := ok.rm
  refine s_one <| s_ret <| x_dc G [("name", 1), ("one", 2), ("other", 3)] <| i_tup <| x_web1 (w := w) <| x_v G 0 ⟨rfl, rsD w.rs, w.rs.map roadD, rfl, tupT, by rw [List.length_map]; omega, fun _ => trivial, fun d => match d with | .tup [.str n, _, _] => .inr n | _ => .inl 0, fun d => match d with | .tup [_, a, b] => .tup [a, b] | _ => .non, fun i d hi μ' b => ?_, ret_val ?_⟩
  · obtain ⟨r, h1, rfl⟩ := maps_get hi
    refine c_tup3 (G.bk rfl) 1 2 3 tupT ⟨rfl, fun b => x_v (G.bk rfl) 1 ⟨rfl, rfl, fun b => x_tup <| a_cons <| x_v (G.bk rfl) 2 <| a_cons <| x_v (G.bk rfl) 3 <| a_nil ⟨[_, _], rfl, (by show 2 ≤ 100000; decide), rfl, rfl⟩⟩⟩
  · rw [List.map_map, kputs_nodup]
    · rw [List.nil_append]
      unfold endsD endsT at h
      rw [List.map_map] at h
      exact h
    · rw [List.nil_append, List.map_map]
      have := ok.rn
      show (w.rs.map fun r => (Sum.inr r.1 : Key)).Nodup
      rw [show (fun r : Str × Str × Str => (Sum.inr r.1 : Key)) = (fun x : Str => (Sum.inr x : Key)) ∘ fun r => r.1 from rfl, ← List.map_map]
      exact List.Pairwise.map _ (fun a b hab z => hab (inr_inj a b z)) this
/-! ### news_places -/
def boolsD (N : List Str) : List (Key × D) := N.map fun x => (.inr x, .bl true)
theorem boolsD_has {N : List Str} {x : Str} : (kget (boolsD N) (.inr x)).isSome = decide (x ∈ N) := by
  unfold boolsD
  induction N with
  | nil => rfl
  | cons y r ih =>
    show (if (Sum.inr y : Key) = .inr x then some (D.bl true) else kget (r.map fun x => ((Sum.inr x : Key), D.bl true)) (.inr x)).isSome = _
    by_cases e : y = x
    · rw [if_pos (by rw [e]), decide_eq_true (by rw [e]; exact List.mem_cons_self)]; rfl
    · rw [if_neg (fun z => e (inr_inj _ _ z)), ih]
      simp [Ne.symm e]
theorem kset_same : ∀ {N : List Str} {x : Str}, kset (boolsD N) (.inr x) (.bl true) = boolsD N
  | [], _ => rfl
  | y :: r, x => by
    show (if (Sum.inr y : Key) = .inr x then ((Sum.inr y : Key), D.bl true) else (.inr y, .bl true)) :: kset (boolsD r) (.inr x) (.bl true) = _
    rw [kset_same]
    split <;> rfl
theorem boolsD_put {N : List Str} {x : Str} : kput (boolsD N) (.inr x) (.bl true) = boolsD (ins N x) := by
  unfold kput khas ins
  rw [boolsD_has]
  by_cases e : x ∈ N
  · rw [decide_eq_true e, if_pos rfl, if_pos e, kset_same]
  · rw [decide_eq_false e, if_neg Bool.false_ne_true, if_neg e]
    simp [boolsD]
def fNm (w : Wb) : D → D
  | .str n => pairD (endOf w n)
  | _ => .non
def fRow (w : Wb) : D → List D
  | .tup ys => ys.map (fNm w)
  | _ => []
def rowD (r : List Str) : D := .tup (r.map .str)
theorem wkE_flat (w : Wb) : ∀ k : List (List Str), (k.map rowD).flatMap (fRow w) = (wkE w k).map pairD
  | [] => rfl
  | r :: k => by
    have ih := wkE_flat w k
    unfold wkE at ih ⊢
    rw [List.map_cons, List.flatMap_cons, List.flatMap_cons, List.map_append, ih]
    congr 1
    show (r.map D.str).map _ = _
    rw [List.map_map, List.map_map]
    rfl
abbrev s_news_places : Stmt := top 42
theorem sc_news_places : FnScope ["web", "week", "place", "ends", "walked", "found", "before", "one", "other", "row", "road"] ["web", "week", "place"] (defScope s_news_places) := ⟨rfl, rfl, rfl, by decide +kernel, rfl, by decide +kernel, by decide +kernel⟩
def S_news_places : SpecD := fun ws μ R => ∃ w k p, ws = [.val (webD w), .val (weekD k), .val (.str p)] ∧ WOk w ∧ KOk w k ∧ p ∈ w.ps ∧ ∀ N, NewsOk w k p N → R (.val (.dK (boolsD N))) μ
theorem wkE_in {w : Wb} {k : List (List Str)} (ok : WOk w) (kk : KOk w k) {e : Str × Str} (he : e ∈ wkE w k) : e.1 ∈ w.ps ∧ e.2 ∈ w.ps := by
  unfold wkE at he
  obtain ⟨r, hr, he⟩ := List.mem_flatMap.mp he
  obtain ⟨n, hn, rfl⟩ := List.mem_map.mp he
  obtain ⟨_, r', hr', _, e2⟩ := endOf_mem (kk.inn r hr n hn)
  rw [e2]
  exact ⟨(ok.rok r' hr').2.1, (ok.rok r' hr').2.2.1⟩
theorem ok_news_places {m : Mo} (T : Tops m) (F : Stands m "news_places" s_news_places) (C1 : Callee m "ends_by_road" 1 S_ends_by_road) : Callee m "news_places" 2 S_news_places := by
  refine callee_of F sc_news_places (ps := ["web", "week", "place"]) (fun ws μ R h => by obtain ⟨d, _, _, rfl, _⟩ := h; rfl) (fun _ _ _ _ _ _ us hl => match us, hl with | [_, _, _], _ => rfl) fun X hm G fx hr ws μ R h => ?_
  subst hm
  obtain ⟨w, k, p, rfl, ok, kk, hp, h⟩ := h
  have l3 := ok.rm
  have l4 := kk.hi
  have hrl : ∀ r ∈ k, r.length ≤ 14 := fun r hm => by
    have := nodup_sub_len (kk.nd r hm) (kk.inn r hm)
    rw [List.length_map] at this
    omega
  refine s_cons <| s_set G 3 <| x_call G C1 hr (by decide) <| a_cons <| x_v G 0 <| a_nil ⟨w, rfl, ok, ?_⟩
  refine s_cons <| s_setLc2 G [("row", 9), ("road", 10)] [10] false 4 <| i_tup <| x_v G 1 ⟨weekD k, k.map rowD, rfl, tupT, fun _ => trivial, fRow w, 14, by rw [List.length_map]; omega, fun x hx => ?_, fun i d hi μ' b => ?_, ?_⟩
  · obtain ⟨r, hr, rfl⟩ := List.mem_map.mp hx
    show ((r.map D.str).map _).length ≤ 14
    rw [List.length_map, List.length_map]
    exact hrl r hr
  · obtain ⟨r, e, rfl⟩ := maps_get hi
    have hm := List.mem_of_getElem? e
    refine c_name (G.bk rfl) 9 ⟨rfl, fun b => i_tup <| x_v (G.bk rfl) 9 ⟨rowD r, r.map .str, rfl, tupT, rfl, fun _ => trivial, fNm w, rfl, fun j e' he' μ'' b => ?_⟩⟩
    obtain ⟨n, e1, rfl⟩ := maps_get he'
    refine c_name (G.bk rfl) 10 ⟨rfl, fun b => x_dget hr <| x_v (G.bk rfl) 3 <| x_v (G.bk rfl) 10 ⟨pairD (endOf w n), ?_, rfl, rfl⟩⟩
    rw [← endsD_get (kk.inn r hm n (List.mem_of_getElem? e1))]
    exact .k (k := .inr n) .dat
  · rw [wkE_flat]
    show WSs X _ _ _ _
    refine s_cons <| s_set G 5 <| x_disp1 <| x_v G 2 <| x_bl ⟨.inr p, .bl true, rfl, rfl, ?_⟩
    refine s_cons <| s_set G 6 <| x_int ?_
    let st : Int → Option W → Option W → DS := fun b x y => [some (.val (webD w)), some (.val (weekD k)), some (.val (.str p)), some (.val (.dK (endsD w))), some (.val (.lst ((wkE w k).map pairD))), some (.own μ.length), some (.val (.int b)), x, y, none, none]
    have hB : ∀ N : List Str, N.Nodup → (∀ x ∈ N, x ∈ w.ps) → N.length ≤ 10 := fun N h1 h2 => Nat.le_trans (nodup_sub_len h1 h2) ok.pm
    refine s_cons <| s_while G (fun m δ μ' => ∃ (N : List Str) (b : Nat) (x y : Option W), δ = st b x y ∧ μ' = μ ++ [.mK (boolsD N)] ∧ N.Nodup ∧ p ∈ N ∧ (∀ x ∈ N, x ∈ w.ps) ∧ (∀ S : Str → Prop, S p → (∀ e ∈ wkE w k, S e.1 ↔ S e.2) → ∀ x ∈ N, S x) ∧ b ≤ N.length ∧ (b = 0 ∨ ∃ N0 : List Str, N0.length = b ∧ N = swp (wkE w k) N0) ∧ m = 20 - (N.length + b)) (20 - (1 + 0)) ⟨[p], 0, none, none, rfl, rfl, by simp, by simp, fun x hx => by rw [List.mem_singleton.mp hx]; exact hp, fun S h1 _ x hx => by rw [List.mem_singleton.mp hx]; exact h1, Nat.zero_le _, .inl rfl, rfl⟩ ?_
    rintro m δ' μ' ⟨N, b, x, y, rfl, rfl, hnd, hpN, hin, hleast, hbl, hb, rfl⟩
    refine t_gt <| x_lenD G T.len <| x_v G 5 ⟨boolsD N, .own at_last, x_v G 6 (ii ⟨fun kt => ?_, fun kf => ?_⟩)⟩
    · have kt := of_decide_eq_true kt
      have hl : (boolsD N).length = N.length := List.length_map _
      refine s_cons <| s_set G 6 <| x_lenD G T.len <| x_v G 5 ⟨boolsD N, .own at_last, ?_⟩
      refine s_one <| s_for G <| i_lst <| x_v G 4 ⟨(wkE w k).map pairD, .lst, fun i δ μ' => ∃ x y, δ = st (boolsD N).length x y ∧ μ' = μ ++ [.mK (boolsD (swp ((wkE w k).take i) N))], ⟨x, y, rfl, rfl⟩, fun _ _ _ _ _ => trivial, ?_, ?_⟩
      · rintro i d δ' μ' hd ⟨x, y, rfl, rfl⟩
        obtain ⟨e, he, rfl⟩ := maps_get hd
        have heq : swp ((wkE w k).take (i + 1)) N = swp1 (swp ((wkE w k).take i) N) e := by rw [getElem?_take_succ he, swp_snoc]
        have heE := List.mem_of_getElem? he
        have hlen : (boolsD (swp ((wkE w k).take i) N)).length ≤ 40000 := by
          have hl2 : (boolsD (swp ((wkE w k).take i) N)).length = (swp ((wkE w k).take i) N).length := List.length_map _
          have := hB _ (swp_nodup (E := (wkE w k).take i) hnd) (swp_keeps (S := (· ∈ w.ps)) (fun e he => ⟨fun _ => (wkE_in ok kk (List.mem_of_mem_take he)).2, fun _ => (wkE_in ok kk (List.mem_of_mem_take he)).1⟩) hin)
          omega
        refine g_tup2 G 7 8 tupT ?_
        have hh : ∀ z, (kget (boolsD (swp ((wkE w k).take i) N)) (.inr z)).isSome = decide (z ∈ swp ((wkE w k).take i) N) := fun z => boolsD_has
        refine s_one <| s_ifB (decide (e.1 ∈ swp ((wkE w k).take i) N) || decide (e.2 ∈ swp ((wkE w k).take i) N)) (t_or <| t_din hr <| x_v G 7 <| x_v G 5 ⟨_, .k (k := .inr e.1) (.own at_last), fun k1 => w_or1 <| t_din hr <| x_v G 8 <| x_v G 5 ⟨_, .k (k := .inr e.2) (.own at_last), ?_, rfl⟩, fun k1 => ⟨?_, rfl⟩⟩) (fun hc => ?_) (fun hc => ?_)
        · rw [hh] at k1
          rw [k1, hh, Bool.false_or]
        · rw [hh] at k1
          rw [k1, Bool.true_or]
        · refine s_cons <| s_dput hr <| x_bl <| x_v G 5 <| x_v G 7 ⟨μ.length, _, .inr e.1, .bl true, rfl, at_last, rfl, rfl, hlen, ?_⟩
          show WSs X _ _ _ _
          rw [set_last, boolsD_put]
          refine s_one <| s_dput hr <| x_bl <| x_v G 5 <| x_v G 8 ⟨μ.length, _, .inr e.2, .bl true, rfl, at_last, rfl, rfl, ?_, ?_⟩
          · have h1 : (boolsD (ins (swp ((wkE w k).take i) N) e.1)).length = (ins (swp ((wkE w k).take i) N) e.1).length := List.length_map _
            have := hB _ (ins_nodup (x := e.1) (swp_nodup (E := (wkE w k).take i) hnd)) (fun z hz => (mem_ins hz).elim (swp_keeps (S := (· ∈ w.ps)) (fun e he => ⟨fun _ => (wkE_in ok kk (List.mem_of_mem_take he)).2, fun _ => (wkE_in ok kk (List.mem_of_mem_take he)).1⟩) hin z) fun q => by rw [q]; exact (wkE_in ok kk heE).1)
            omega
          · refine ⟨_, _, rfl, ?_⟩
            rw [set_last, boolsD_put, heq]
            unfold swp1
            rw [if_pos (by simpa using hc)]
        · refine s_nil ⟨_, _, rfl, ?_⟩
          rw [heq]
          unfold swp1
          rw [if_neg (by simpa using hc)]
      · rintro δ' μ' ⟨x, y, rfl, rfl⟩
        rw [List.length_map, List.take_length]
        obtain ⟨t, ht⟩ := swp_app (wkE w k) N
        have hlen := congrArg List.length ht
        rw [List.length_append] at hlen
        have hlb : ((boolsD N).length : Int) = (N.length : Int) := by rw [hl]
        have hin' := swp_keeps (S := (· ∈ w.ps)) (E := wkE w k) (fun e he => ⟨fun _ => (wkE_in ok kk he).2, fun _ => (wkE_in ok kk he).1⟩) hin
        have hm := hB _ (swp_nodup (E := wkE w k) hnd) hin'
        have ktN : (b : Int) < N.length := by rw [hl] at kt; exact kt
        refine ⟨20 - ((swp (wkE w k) N).length + N.length), by omega, swp (wkE w k) N, N.length, x, y, by rw [hl], rfl, swp_nodup hnd, by rw [ht]; exact List.mem_append_left _ hpN, hin', fun S h1 h2 => swp_keeps h2 (hleast S h1 h2), by omega, .inr ⟨N, rfl, rfl⟩, rfl⟩
    · have kf := of_decide_eq_false kf
      have hl : (boolsD N).length = N.length := List.length_map _
      rw [hl] at kf
      have hpos := List.length_pos_of_mem hpN
      refine s_one <| s_ret <| x_v G 5 ?_
      show (if μ.length < μ.length then _ else _)
      rw [if_neg (Nat.lt_irrefl _), List.take_left' rfl]
      refine ⟨.mK (boolsD N), at_last, .inl (h N ⟨hnd, hpN, ?_, hleast⟩)⟩
      rcases hb with hb | ⟨N0, h0, hN⟩
      · omega
      · obtain ⟨t, ht⟩ := swp_app (wkE w k) N0
        have hlen := congrArg List.length (hN.trans ht)
        rw [List.length_append] at hlen
        have e0 : N = N0 := app_len (hN.trans ht) (by omega)
        have := swp_closed (E := wkE w k) (N := N0) (by rw [← hN, e0])
        rw [e0]
        exact this
end DL
set_option Elab.async false
set_option linter.all false
set_option maxRecDepth 100000
set_option maxHeartbeats 2000000
set_option pp.maxSteps 250
namespace DL
open PySem PySem.Spec PyProof.Rows L2
/-- an expression with one value that changes nothing -/
theorem x_as {X : Cx} {δ : DS} {μ : List M} {R : W → List M → Prop} {e : Expr} (w0 : W) (h : WE X e δ μ fun w μ1 => w = w0 ∧ μ1 = μ) (k : R w0 μ) : WE X e δ μ R := EvE.mono h fun w μ1 ⟨e1, e2⟩ => by subst e1 e2; exact k
def optM : Option (Int × Int) → D
  | none => .non
  | some m => mom m.1 m.2
def fndD (f : Fnd) : List (Key × D) := f.map fun x => (.inr x.1, mom x.2.1 x.2.2)
theorem fndD_get {f : Fnd} {x : Str} : kget (fndD f) (.inr x) = (kget f x).map fun m => mom m.1 m.2 := kget_map (fun x : Str => (Sum.inr x : Key)) inr_inj (fun m : Int × Int => mom m.1 m.2) x f
theorem fndD_put {f : Fnd} {x : Str} {a b : Int} : kput (fndD f) (.inr x) (mom a b) = fndD (kput f x (a, b)) := kput_map (fun x : Str => (Sum.inr x : Key)) inr_inj (fun m : Int × Int => mom m.1 m.2) x (a, b) f
theorem fndD_has {f : Fnd} {x : Str} : (kget (fndD f) (.inr x)).isSome = khas f x := by
  rw [fndD_get]
  unfold khas
  cases kget f x <;> rfl
theorem fndD_opt {f : Fnd} {x : Str} : (kget (fndD f) (.inr x)).getD .non = optM (kget f x) := by
  rw [fndD_get]
  cases kget f x <;> rfl
noncomputable def arrL (w : Wb) (k : List (List Str)) (p : Str) (d i : Int) : List (Option (Int × Int)) := w.ps.map fun q => kget (arrF w k p d i) q
/-- each found is a place -/
def FIn (w : Wb) (f : Fnd) : Prop := (f.map Prod.fst).Nodup ∧ ∀ x ∈ f.map Prod.fst, x ∈ w.ps
theorem FIn.len {w : Wb} (ok : WOk w) {f : Fnd} (h : FIn w f) : f.length ≤ 10 := by
  have := nodup_sub_len h.1 h.2
  rw [List.length_map] at this
  have := ok.pm
  omega
theorem stepA_in {w : Wb} (ok : WOk w) {day first : Int} {i : Nat} {r : Str} (hr : r ∈ w.rs.map (·.1)) {f : Fnd} (h : FIn w f) : FIn w (stepA w day first i r f) := by
  obtain ⟨_, r', hr', _, e2⟩ := endOf_mem hr
  have he := ok.rok r' hr'
  unfold stepA
  split
  · rename_i hc
    rw [e2] at hc ⊢
    have hx : (if khas f r'.2.1 = true then r'.2.2 else r'.2.1) ∉ f.map Prod.fst := by
      by_cases h1 : khas f r'.2.1 = true
      · rw [if_pos h1]
        exact fun q => hc.2 (by rw [h1, khas_iff.mpr q])
      · rw [if_neg h1]
        exact fun q => h1 (khas_iff.mpr q)
    rw [kput_new hx]
    refine ⟨?_, fun x hxx => ?_⟩
    · rw [List.map_append]
      exact List.nodup_append.mpr ⟨h.1, by simp, fun a ha b hb z => by
        have hb' : b = _ := List.mem_singleton.mp hb
        rw [z, hb'] at ha
        exact hx ha⟩
    · rw [List.map_append] at hxx
      rcases List.mem_append.mp hxx with z | z
      · exact h.2 x z
      · have hb' : x = _ := List.mem_singleton.mp z
        rw [hb']
        show (if khas f r'.2.1 = true then r'.2.2 else r'.2.1) ∈ w.ps
        split
        · exact he.2.2.1
        · exact he.2.1
  · exact h
theorem goA_in {w : Wb} (ok : WOk w) {day first : Int} : ∀ {rs : List Str} {i : Nat} {f : Fnd}, (∀ r ∈ rs, r ∈ w.rs.map (·.1)) → FIn w f → FIn w (goA w day first i rs f)
  | [], _, _, _, h => h
  | r :: rs, i, f, hr, h => goA_in ok (rs := rs) (fun x hx => hr x (List.mem_cons_of_mem _ hx)) (stepA_in ok (hr r List.mem_cons_self) h)
theorem stA_in {w : Wb} (ok : WOk w) {k : List (List Str)} (kk : KOk w k) {p : Str} (hp : p ∈ w.ps) {d i : Int} : ∀ t, FIn w (stA w k p d i t).2.2
  | 0 => ⟨by simp [stA], fun x hx => by have : x = p := by simpa [stA] using hx
                                        rw [this]; exact hp⟩
  | t + 1 => goA_in ok (fun r hr => kk.inn _ (rndOf_mem kk.lo) r hr) (stA_in ok kk hp t)
abbrev s_arrivals_from : Stmt := top 43
theorem sc_arrivals_from : FnScope ["web", "week", "place", "moment", "missed", "ends", "many", "found", "day", "first", "index", "road", "one", "other", "name"] ["web", "week", "place", "moment", "missed"] (defScope s_arrivals_from) := ⟨rfl, rfl, rfl, by decide +kernel, rfl, by decide +kernel, by decide +kernel⟩
def S_arrivals_from : SpecD := fun ws μ R => ∃ w k p d i, ws = [.val (webD w), .val (weekD k), .val (.str p), .val (mom d i), .val (.dT [])] ∧ WOk w ∧ KOk w k ∧ p ∈ w.ps ∧ ((∃ T, IsArr w k p d i T) → R (.val (.lst ((arrL w k p d i).map optM))) μ)
theorem ok_arrivals_from {m : Mo} (T : Tops m) (F : Stands m "arrivals_from" s_arrivals_from) (C1 : Callee m "ends_by_road" 1 S_ends_by_road) (C2 : Callee m "news_places" 2 S_news_places) (C3 : Callee m "round_of" 1 S_round_of) : Callee m "arrivals_from" 3 S_arrivals_from := by
  refine callee_of F sc_arrivals_from (ps := ["web", "week", "place", "moment", "missed"]) (fun ws μ R h => by obtain ⟨_, _, _, _, _, rfl, _⟩ := h; rfl) (fun _ _ _ _ _ _ us hl => match us, hl with | [_, _, _, _, _], _ => rfl) fun X hm G fx hr ws μ R h => ?_
  subst hm
  obtain ⟨w, k, p, d0, i0, rfl, ok, kk, hp, h⟩ := h
  refine s_cons <| s_set G 5 <| x_call G C1 hr (by decide) <| a_cons <| x_v G 0 <| a_nil ⟨w, rfl, ok, ?_⟩
  refine s_cons <| s_set G 6 <| x_lenD G T.len <| x_call G C2 hr (by decide) <| a_cons <| x_v G 0 <| a_cons <| x_v G 1 <| a_cons <| x_v G 2 <| a_nil ⟨w, k, p, rfl, ok, kk, hp, fun N hN => ⟨boolsD N, .dat, ?_⟩⟩
  rw [show (boolsD N).length = N.length from List.length_map _]
  refine s_cons <| s_set G 7 <| x_disp1 <| x_v G 2 <| x_v G 3 ⟨.inr p, mom d0 i0, rfl, rfl, ?_⟩
  refine s_cons <| s_asg <| x_v G 3 <| g_tup2 G 8 9 tupT ?_
  let st : Int → Int → Option W → Option W → Option W → Option W → DS := fun day first a b c e => [some (.val (webD w)), some (.val (weekD k)), some (.val (.str p)), some (.val (mom d0 i0)), some (.val (.dT [])), some (.val (.dK (endsD w))), some (.val (.int N.length)), some (.own μ.length), some (.val (.int day)), some (.val (.int first)), a, b, c, e, none]
  obtain ⟨TT, hTT, hT1, hT2⟩ := isArr_ex (d := d0) (i := i0) hN
  refine s_cons <| s_while G (fun m δ μ' => ∃ (t : Nat) (a b c e : Option W), t ≤ TT ∧ m = TT - t ∧ δ = st (stA w k p d0 i0 t).1 (stA w k p d0 i0 t).2.1 a b c e ∧ μ' = μ ++ [.mK (fndD (stA w k p d0 i0 t).2.2)]) TT ⟨0, none, none, none, none, Nat.zero_le _, rfl, rfl, rfl⟩ ?_
  rintro m δ' μ' ⟨t, a, b, c, e, ht, rfl, rfl, rfl⟩
  have hf := stA_in ok kk hp (d := d0) (i := i0) t
  have hfl : ∀ f : Fnd, (fndD f).length = f.length := fun f => List.length_map _
  refine t_lt <| x_lenD G T.len <| x_v G 7 ⟨_, .own at_last, x_v G 6 (ii ⟨fun kt => ?_, fun kf => ?_⟩)⟩
  · have kt := of_decide_eq_true kt
    rw [hfl] at kt
    have htT : t < TT := by
      rcases Nat.lt_or_ge t TT with z | z
      · exact z
      · have : t = TT := by omega
        rw [this] at kt
        omega
    generalize hs : stA w k p d0 i0 t = s at kt hf ⊢
    obtain ⟨day, first, f⟩ := s
    refine s_cons <| s_for G <| i_enumT G T.enumerate <| x_call G C3 hr (by decide) <| a_cons <| x_v G 1 <| a_cons <| x_v G 8 <| a_nil ⟨k, day, rfl, kk.lo, _, _, rfl, tupT, fun i δ μ' => ∃ a b c e, δ = st day first a b c e ∧ μ' = μ ++ [.mK (fndD (goA w day first 0 ((rndOf k day).take i) f))], ⟨a, b, c, e, rfl, rfl⟩, fun _ _ _ _ _ => trivial, ?_, ?_⟩
    · rintro i d δ' μ' hd ⟨a, b, c, e, rfl, rfl⟩
      obtain ⟨x, hx, rfl⟩ := enumD_get hd
      obtain ⟨r, hrr, rfl⟩ := maps_get hx
      have hrn := kk.inn _ (rndOf_mem kk.lo) r (List.mem_of_getElem? hrr)
      have hlen := (List.getElem?_eq_some_iff.mp hrr).1
      have hgo : goA w day first 0 ((rndOf k day).take (i + 1)) f = stepA w day first i r (goA w day first 0 ((rndOf k day).take i) f) := by
        rw [getElem?_take_succ hrr, goA_snoc, List.length_take, Nat.min_eq_left (by omega), Nat.zero_add]
      have hg : FIn w (goA w day first 0 ((rndOf k day).take i) f) := goA_in ok (fun z hz => kk.inn _ (rndOf_mem kk.lo) z (List.mem_of_mem_take hz)) hf
      obtain ⟨f1, hf1⟩ : ∃ f1, f1 = goA w day first 0 ((rndOf k day).take i) f := ⟨_, rfl⟩
      rw [← hf1] at hg hgo ⊢
      refine g_tup2 G 10 11 tupT ?_
      refine s_cons <| s_asg <| x_dget hr <| x_v G 5 <| x_v G 11 ⟨pairD (endOf w r), by rw [← endsD_get hrn]; exact .k (k := .inr r) .dat, g_tup2 G 12 13 tupT ?_⟩
      have hh : ∀ z, (kget (fndD f1) (.inr z)).isSome = khas f1 z := fun z => fndD_has
      refine s_one <| s_ifB (decide (first ≤ (i : Int)) && !decide (khas f1 (endOf w r).1 = khas f1 (endOf w r).2)) (t_and <| t_ge <| x_v G 10 <| x_v G 9 (ii ⟨fun k1 => ?_, fun k1 => ?_⟩)) (fun hc => ?_) (fun hc => ?_)
      · refine w_and <| t_ne <| x_din hr <| x_v G 12 <| x_v G 7 ⟨_, .k (k := .inr (endOf w r).1) (.own at_last), x_din hr <| x_v G 13 <| x_v G 7 ⟨_, .k (k := .inr (endOf w r).2) (.own at_last), _, .bl _ _, fun k2 => ?_, fun k2 => ?_⟩⟩
        · refine w_and1 <| t_dnotin hr <| x_tup <| a_cons <| x_v G 8 <| a_cons <| x_v G 11 <| a_nil ⟨[.int day, .str r], rfl, (by show 2 ≤ 100000; decide), x_v G 4 ⟨_, .t (ks := [.inl day, .inr r]), ?_, rfl⟩⟩
          rw [hh, hh] at k2
          rw [k1, k2]
          rfl
        · rw [hh, hh] at k2
          exact ⟨by rw [k1, k2]; rfl, rfl⟩
      · exact ⟨by rw [k1]; rfl, rfl⟩
      · rw [Bool.and_eq_true, decide_eq_true_eq, Bool.not_eq_true', decide_eq_false_iff_not] at hc
        refine s_one <| s_dput hr <| x_tup <| a_cons <| x_v G 8 <| a_cons <| x_add <| x_v G 10 <| x_int <| ii <| a_nil ⟨[.int day, .int (i + 1)], rfl, (by show 2 ≤ 100000; decide), x_v G 7 <| x_as (.val (.str (if khas f1 (endOf w r).1 = true then (endOf w r).2 else (endOf w r).1))) (x_if <| t_din hr <| x_v G 12 <| x_v G 7 ⟨_, .k (k := .inr (endOf w r).1) (.own at_last), fun k2 => ?_, fun k2 => ?_⟩) ⟨μ.length, _, .inr (if khas f1 (endOf w r).1 = true then (endOf w r).2 else (endOf w r).1), mom day (i + 1), rfl, at_last, rfl, rfl, ?_, ?_⟩⟩
        · rw [hh] at k2
          rw [if_pos k2]
          exact x_v G 13 ⟨rfl, rfl⟩
        · rw [hh] at k2
          rw [if_neg (by rw [k2]; exact Bool.false_ne_true)]
          exact x_v G 12 ⟨rfl, rfl⟩
        · rw [hfl]
          have := hg.len ok
          omega
        · refine ⟨_, _, _, _, rfl, ?_⟩
          rw [set_last, fndD_put, hgo]
          unfold stepA
          exact congrArg (fun f => μ ++ [M.mK (fndD f)]) (if_pos ⟨hc.1, hc.2⟩).symm
      · refine s_nil ⟨_, _, _, _, rfl, ?_⟩
        rw [hgo]
        unfold stepA
        rw [if_neg]
        rintro ⟨h1, h2⟩
        rw [decide_eq_true h1, decide_eq_false h2] at hc
        cases hc
    · rintro δ' μ' ⟨a, b, c, e, rfl, rfl⟩
      rw [enumD_length, List.length_map, List.take_length]
      refine s_one <| s_par G 8 9 <| x_add <| x_v G 8 <| x_int <| ii <| x_int ⟨TT - (t + 1), by omega, t + 1, a, b, c, e, by omega, rfl, ?_, ?_⟩
      · show _ = st ((stA w k p d0 i0 t).1 + 1) 0 a b c e
        rw [hs]
        rfl
      · show _ = μ ++ [.mK (fndD (goA w (stA w k p d0 i0 t).1 (stA w k p d0 i0 t).2.1 0 (rndOf k (stA w k p d0 i0 t).1) (stA w k p d0 i0 t).2.2))]
        rw [hs]
  · have kf := of_decide_eq_false kf
    rw [hfl] at kf
    have etT : t = TT := by
      rcases Nat.lt_or_ge t TT with z | z
      · have := hT2 t z
        omega
      · omega
    subst etT
    have hF := arrF_eq hTT
    have hpm := ok.pm
    refine s_one <| s_ret <| x_lc (o := false) G [("name", 14)] <| lc_map (fun d => match d with | .str q => optM (kget (stA w k p d0 i0 t).2.2 q) | _ => .non) <| i_tup <| x_web0 (w := w) <| x_v G 0 ⟨rfl, psD w.ps, w.ps.map .str, rfl, tuxT, by rw [List.length_map]; omega, trivial, fun i d hi b => ?_, ?_⟩
    · obtain ⟨q, h1, rfl⟩ := maps_get hi
      refine c_name (G.bk rfl) 14 fun b => x_get1 hr <| x_v (G.bk rfl) 7 ⟨.k (.own at_last), x_v (G.bk rfl) 14 ⟨_, .k (k := .inr q) (.own at_last), ?_, rfl⟩⟩
      rw [fndD_opt]
    · show RetR μ.length R (W.val _) _
      show R (W.val _) ((μ ++ _).take μ.length)
      rw [List.take_left' rfl, List.map_map]
      have := h ⟨t, hTT⟩
      unfold arrL at this
      rw [hF, List.map_map] at this
      exact this
end DL
set_option Elab.async false
set_option linter.all false
set_option maxRecDepth 100000
set_option maxHeartbeats 2000000
set_option pp.maxSteps 250
namespace DL
open PySem PySem.Spec PyProof.Rows L2
theorem newsOk_ex {w : Wb} {k : List (List Str)} (ok : WOk w) (kk : KOk w k) {p : Str} (hp : p ∈ w.ps) : ∃ N, NewsOk w k p N := by
  have key : ∀ (n : Nat) (N : List Str), N.Nodup → p ∈ N → (∀ x ∈ N, x ∈ w.ps) → (∀ S : Str → Prop, S p → (∀ e ∈ wkE w k, S e.1 ↔ S e.2) → ∀ x ∈ N, S x) → 10 ≤ N.length + n → ∃ N, NewsOk w k p N := by
    intro n
    induction n with
    | zero =>
      intro N h1 h2 h3 h4 h5
      refine ⟨N, h1, h2, swp_closed (E := wkE w k) ?_, h4⟩
      obtain ⟨t, ht⟩ := swp_app (wkE w k) N
      have hl := congrArg List.length ht
      rw [List.length_append] at hl
      have h6 := nodup_sub_len (swp_nodup (E := wkE w k) h1) (swp_keeps (S := (· ∈ w.ps)) (fun e he => ⟨fun _ => (wkE_in ok kk he).2, fun _ => (wkE_in ok kk he).1⟩) h3)
      have := ok.pm
      omega
    | succ n ih =>
      intro N h1 h2 h3 h4 h5
      by_cases hl : (swp (wkE w k) N).length = N.length
      · exact ⟨N, h1, h2, swp_closed hl, h4⟩
      · obtain ⟨t, ht⟩ := swp_app (wkE w k) N
        have hl' := congrArg List.length ht
        rw [List.length_append] at hl'
        exact ih (swp (wkE w k) N) (swp_nodup h1) (by rw [ht]; exact List.mem_append_left _ h2) (swp_keeps (S := (· ∈ w.ps)) (fun e he => ⟨fun _ => (wkE_in ok kk he).2, fun _ => (wkE_in ok kk he).1⟩) h3) (fun S a b => swp_keeps b (h4 S a b)) (by omega)
  exact key 10 [p] (by simp) (by simp) (fun x hx => by rw [List.mem_singleton.mp hx]; exact hp) (fun S a _ x hx => by rw [List.mem_singleton.mp hx]; exact a) (by omega)
theorem arr_ex {w : Wb} {k : List (List Str)} (ok : WOk w) (kk : KOk w k) {p : Str} (hp : p ∈ w.ps) {d i : Int} : ∃ T, IsArr w k p d i T := by
  obtain ⟨N, hN⟩ := newsOk_ex ok kk hp
  obtain ⟨T, h, _⟩ := isArr_ex (d := d) (i := i) hN
  exact ⟨T, h⟩
/-! ### scripts of tells -/
structure Dd where
  d : Int
  i : Int
  p : Str
  wd : Str
def deedD (x : Dd) : D := .tup [.str "tell", mom x.d x.i, .str x.p, .str x.wd]
def scrD (s : List Dd) : D := .tup (s.map deedD)
structure DOk (w : Wb) (k : List (List Str)) (x : Dd) : Prop where
  m : MomOk k x.d x.i
  p : x.p ∈ w.ps
  wd : NameOk x.wd
/-- a <= b of moments -/
def mle (a b : Int × Int) : Bool := !decide (b.1 < a.1 ∨ (b.1 = a.1 ∧ b.2 < a.2))
structure SOk (w : Wb) (k : List (List Str)) (s : List Dd) : Prop where
  l : s.length ≤ 20
  each : ∀ x ∈ s, DOk w k x
  un : (s.map (·.wd)).Nodup
  up : ∀ (j : Nat) (x y : Dd), s[j]? = some x → s[j + 1]? = some y → mle (x.d, x.i) (y.d, y.i) = true
structure Tops2 (m : Mo) : Prop where
  sizes : GDict m "SIZES" "tell" (.int 4)
abbrev s_is_deed : Stmt := top 47
theorem sc_is_deed : FnScope ["web", "week", "thing", "places", "place"] ["web", "week", "thing"] (defScope s_is_deed) := ⟨rfl, rfl, rfl, by decide +kernel, rfl, by decide +kernel, by decide +kernel⟩
def S_is_deed : SpecD := fun ws μ R => ∃ w k x, ws = [.val (webD w), .val (weekD k), .val (deedD x)] ∧ 1 ≤ k.length ∧ DOk w k x ∧ R (.val (.bl true)) μ
theorem ok_is_deed {m : Mo} (T : Tops m) (T2 : Tops2 m) (F : Stands m "is_deed" s_is_deed) (C1 : Callee m "is_moment" 3 S_is_moment) (C2 : Callee m "is_name" 1 S_is_name) (C3 : Callee m "is_place" 1 S_is_place) : Callee m "is_deed" 4 S_is_deed := by
  refine callee_of F sc_is_deed (ps := ["web", "week", "thing"]) (fun ws μ R h => by obtain ⟨_, _, _, rfl, _⟩ := h; rfl) (fun _ _ _ _ _ _ us hl => match us, hl with | [_, _, _], _ => rfl) fun X hm G fx hr ws μ R h => ?_
  subst hm
  obtain ⟨w, k, x, rfl, hk, hx, h⟩ := h
  refine s_cons <| s_if <| t_or <| t_not <| t_val <| x_isi G T.isinstance T.tuple (by decide +kernel) <| x_v G 2 ⟨deedD x, true, rfl, rfl, kit_tt, bb ⟨fun _ => ?_, fun k => nomatch k⟩⟩
  refine w_or <| t_eq <| x_len G T.len <| x_v G 2 ⟨_, .tup tupT, x_int ⟨_, .int _ _, fun _ => ?_, fun z => ?_⟩⟩
  · refine w_or1 <| t_not <| t_val <| x_isi G T.isinstance T.str (by decide +kernel) <| x_at <| x_v G 2 <| x_int ⟨_, 0, .str "tell", .tup tupT, rfl, rfl, _, true, rfl, rfl, kit_ss, bb ⟨(fun k => nomatch k), fun _ => s_nil ?_⟩⟩
    refine s_cons <| s_if <| t_or <| t_ne <| x_gget (dv := .int 4) G T2.sizes (fun _ => .int 4) <| x_at <| x_v G 2 <| x_int ⟨_, 0, .str "tell", .tup tupT, rfl, rfl, x_int ⟨rfl, x_len G T.len <| x_v G 2 ⟨_, .tup tupT, _, .int _ _, fun _ => ?_, fun z => ?_⟩⟩⟩
    · refine w_or <| t_not <| t_val <| x_call G C1 hr (by decide) <| a_cons <| x_v G 1 <| a_cons <| x_at <| x_v G 2 <| x_int ⟨_, 1, mom x.d x.i, .tup tupT, rfl, rfl, a_nil ⟨k, x.d, x.i, rfl, hk, hx.m, bb ⟨fun _ => ?_, fun k => nomatch k⟩⟩⟩
      refine w_or1 <| t_not <| t_val <| x_call G C2 hr (by decide) <| a_cons <| x_at <| x_v G 2 <| x_neg <| x_int ⟨1, rfl, _, _, .str x.wd, .tup tupT, rfl, rfl, a_nil ⟨x.wd, rfl, hx.wd, bb ⟨(fun k => nomatch k), fun _ => s_nil ?_⟩⟩⟩
      refine s_cons <| s_set G 3 <| x_slT <| x_v G 2 <| o_some <| x_int ⟨2, rfl, o_some <| x_neg <| x_int ⟨1, rfl, -1, rfl, _, [.str "tell", mom x.d x.i, .str x.p, .str x.wd], rfl, tupT, (by show ¬ (HT.sIx 4 0 (some 2) = 0 ∧ HT.sIx 4 4 (some (-1)) = 4); decide), ?_⟩⟩
      refine s_cons <| s_if <| t_not <| t_val <| x_allT G T.all [("place", 4)] <| i_tup <| x_v G 3 ⟨_, [.str x.p], rfl, tupT, (by show 1 ≤ 40000; decide), trivial, fun j d hj b => ?_, bb ⟨(fun k => nomatch k), fun _ => s_nil ?_⟩⟩
      · cases j with
        | zero =>
          cases hj
          exact c_name (G.bk rfl) 4 fun b => x_call (G.bk rfl) C3 hr (by decide) <| a_cons <| x_v (G.bk rfl) 0 <| a_cons <| x_v (G.bk rfl) 4 <| a_nil ⟨w, x.p, rfl, hx.p, rfl, rfl⟩
        | succ j => simp at hj
      · exact s_one <| s_ret <| x_eq <| x_lenU G T.len T.set <| x_v G 3 ⟨[x.p], .tup tupT, by simp, (by show 1 ≤ 4000; decide), x_len G T.len <| x_v G 3 ⟨[.str x.p], .tup tupT, _, .int _ _, ret_val h⟩⟩
    · exact nomatch (show false = true from z)
  · exact nomatch (show false = true from z)
abbrev s_words_of : Stmt := top 48
theorem sc_words_of : FnScope ["script", "kind", "deed"] ["script", "kind"] (defScope s_words_of) := ⟨rfl, rfl, rfl, by decide +kernel, rfl, by decide +kernel, by decide +kernel⟩
def S_words_of : SpecD := fun ws μ R => ∃ (s : List Dd) (kd : Str), ws = [.val (scrD s), .val (.str kd)] ∧ s.length ≤ 40000 ∧ R (.val (.lst ((if kd = "tell" then s.map (·.wd) else []).map .str))) μ
theorem ok_words_of {m : Mo} (F : Stands m "words_of" s_words_of) : Callee m "words_of" 1 S_words_of := by
  refine callee_of F sc_words_of (ps := ["script", "kind"]) (fun ws μ R h => by obtain ⟨_, _, rfl, _⟩ := h; rfl) (fun _ _ _ _ _ _ us hl => match us, hl with | [_, _], _ => rfl) fun X hm G fx hr ws μ R h => ?_
  subst hm
  obtain ⟨s, kd, rfl, hz, h⟩ := h
  refine s_one <| s_ret <| x_lc (o := false) G [("deed", 2)] <| lc_flt (fun d => match d with | .tup [_, _, _, y] => if kd = "tell" then some y else none | _ => none) <| i_tup <| x_v G 0 ⟨scrD s, s.map deedD, rfl, tupT, by rw [List.length_map]; exact hz, trivial, fun i d hi b => ?_, ret_val ?_⟩
  · obtain ⟨x, _, rfl⟩ := maps_get hi
    refine c_name (G.bk rfl) 2 fun b => ts_one <| t_eq <| x_at <| x_v (G.bk rfl) 2 <| x_int ⟨_, 0, .str "tell", .tup tupT, rfl, rfl, x_v (G.bk rfl) 1 ⟨_, .str _ _, fun hk b => x_at <| x_v (G.bk rfl) 2 <| x_neg <| x_int ⟨1, rfl, _, _, .str x.wd, .tup tupT, rfl, rfl, _, rfl, ?_, rfl⟩, fun hk => ⟨?_, rfl⟩⟩⟩
    · exact if_pos (of_decide_eq_true hk).symm
    · exact if_neg (fun z => of_decide_eq_false hk z.symm)
  · have e : (s.map deedD).filterMap (fun d => match d with | .tup [_, _, _, y] => if kd = "tell" then some y else none | _ => none) = (if kd = "tell" then s.map (·.wd) else []).map D.str := by
      rw [List.filterMap_map]
      by_cases hk : kd = "tell"
      · simp only [if_pos hk]
        rw [List.map_map, ← List.filterMap_eq_map]
        rfl
      · simp only [if_neg hk]
        rw [List.map_nil]
        exact List.filterMap_eq_nil_iff.mpr fun _ _ => rfl
    show R (.val (.lst _)) μ
    rw [e]
    exact h
abbrev s_are_unlike : Stmt := top 49
theorem sc_are_unlike : FnScope ["words"] ["words"] (defScope s_are_unlike) := ⟨rfl, rfl, rfl, by decide +kernel, rfl, by decide +kernel, by decide +kernel⟩
def S_are_unlike : SpecD := fun ws μ R => ∃ (xs : List Str), ws = [.val (.lst (xs.map .str))] ∧ xs.Nodup ∧ xs.length ≤ 4000 ∧ R (.val (.bl true)) μ
theorem ok_are_unlike {m : Mo} (T : Tops m) (F : Stands m "are_unlike" s_are_unlike) : Callee m "are_unlike" 1 S_are_unlike := by
  refine callee_of F sc_are_unlike (ps := ["words"]) (fun ws μ R h => by obtain ⟨_, rfl, _⟩ := h; rfl) (fun _ _ _ _ _ _ us hl => match us, hl with | [_], _ => rfl) fun X hm G fx hr ws μ R h => ?_
  subst hm
  obtain ⟨xs, rfl, hnd, hz, h⟩ := h
  refine s_one <| s_ret <| x_eq <| x_lenU G T.len T.set <| x_v G 0 ⟨xs, .lst .lst, hnd, hz, x_len G T.len <| x_v G 0 ⟨xs.map .str, .lst .lst, _, .int _ _, ret_val ?_⟩⟩
  rw [List.length_map, decide_eq_true rfl]
  exact h
abbrev s_is_script : Stmt := top 50
theorem sc_is_script : FnScope ["web", "week", "thing", "told", "denied", "asked", "deed", "at"] ["web", "week", "thing"] (defScope s_is_script) := ⟨rfl, rfl, rfl, by decide +kernel, rfl, by decide +kernel, by decide +kernel⟩
def S_is_script : SpecD := fun ws μ R => ∃ w k s, ws = [.val (webD w), .val (weekD k), .val (scrD s)] ∧ 1 ≤ k.length ∧ SOk w k s ∧ R (.val (.bl true)) μ
theorem at_nat {xs : List D} {j : Nat} {d : D} (h : xs[j]? = some d) : atI xs (j : Int) = some d := by
  have hl := (List.getElem?_eq_some_iff.mp h).1
  unfold atI ixN
  rw [if_pos (by omega), if_pos (by omega)]
  simpa using h
theorem ok_is_script {m : Mo} (T : Tops m) (F : Stands m "is_script" s_is_script) (C1 : Callee m "is_deed" 4 S_is_deed) (C2 : Callee m "words_of" 1 S_words_of) (C3 : Callee m "are_unlike" 1 S_are_unlike) : Callee m "is_script" 5 S_is_script := by
  refine callee_of F sc_is_script (ps := ["web", "week", "thing"]) (fun ws μ R h => by obtain ⟨_, _, _, rfl, _⟩ := h; rfl) (fun _ _ _ _ _ _ us hl => match us, hl with | [_, _, _], _ => rfl) fun X hm G fx hr ws μ R h => ?_
  subst hm
  obtain ⟨w, k, s, rfl, hk, hs, h⟩ := h
  have hl := hs.l
  have hml : (s.map deedD).length = s.length := List.length_map _
  refine s_cons <| s_if <| t_or <| t_not <| t_val <| x_isi G T.isinstance T.tuple (by decide +kernel) <| x_v G 2 ⟨scrD s, true, rfl, rfl, kit_tt, bb ⟨fun _ => ?_, fun k => nomatch k⟩⟩
  refine w_or <| t_gt <| x_len G T.len <| x_v G 2 ⟨s.map deedD, .tup tupT, x_gint G T.MOST_DEEDS (ii ⟨fun _ => ?_, fun z => ?_⟩)⟩
  · refine w_or1 <| t_not <| t_val <| x_allT G T.all [("deed", 6)] <| i_tup <| x_v G 2 ⟨scrD s, s.map deedD, rfl, tupT, by omega, trivial, fun i d hi b => ?_, bb ⟨(fun k => nomatch k), fun _ => s_nil ?_⟩⟩
    · obtain ⟨x, hx, rfl⟩ := maps_get hi
      exact c_name (G.bk rfl) 6 fun b => x_call (G.bk rfl) C1 hr (by decide) <| a_cons <| x_v (G.bk rfl) 0 <| a_cons <| x_v (G.bk rfl) 1 <| a_cons <| x_v (G.bk rfl) 6 <| a_nil ⟨w, k, x, rfl, hk, hs.each x (List.mem_of_getElem? hx), rfl, rfl⟩
    refine s_cons <| s_if <| t_not <| t_val <| x_allT G T.all [("at", 7)] <| i_rng1 G T.range <| x_sub <| x_len G T.len <| x_v G 2 ⟨s.map deedD, .tup tupT, x_int <| ii ⟨_, rfl, by omega, by omega, ?_, trivial, fun i d hi b => ?_, bb ⟨(fun k => nomatch k), fun _ => s_nil ?_⟩⟩⟩
    · rw [rng_length]; omega
    · obtain ⟨hlt, rfl⟩ := rng_get hi
      rw [Int.zero_add]
      have h1 : i + 1 < s.length := by omega
      have e0 : s[i]? = some s[i] := List.getElem?_eq_getElem (by omega)
      have e1 : s[i + 1]? = some s[i + 1] := List.getElem?_eq_getElem h1
      refine c_name (G.bk rfl) 7 fun b => x_leM hr <| x_at <| x_at <| x_v (G.bk rfl) 2 <| x_v (G.bk rfl) 7 ⟨s.map deedD, i, deedD s[i], .tup tupT, rfl, at_nat (xs := s.map deedD) (j := i) (d := deedD s[i]) (by rw [List.getElem?_map, e0]; rfl), x_int ⟨_, 1, mom s[i].d s[i].i, .tup tupT, rfl, rfl, x_at <| x_at <| x_v (G.bk rfl) 2 <| x_add <| x_v (G.bk rfl) 7 <| x_int <| ii ⟨s.map deedD, _, deedD s[i + 1], .tup tupT, rfl, at_nat (xs := s.map deedD) (j := i + 1) (d := deedD s[i + 1]) (by rw [List.getElem?_map, e1]; rfl), x_int ⟨_, 1, mom s[i + 1].d s[i + 1].i, .tup tupT, rfl, rfl, _, _, _, _, rfl, rfl, ?_, rfl⟩⟩⟩⟩
      have := hs.up i _ _ e0 e1
      unfold mle at this
      exact congrArg (fun k => W.val (D.bl k)) this
    · refine s_cons <| s_par3 G 3 4 5 <| x_call G C2 hr (by decide) <| a_cons <| x_v G 2 <| a_cons <| x_str <| a_nil ⟨s, "tell", rfl, by omega, x_call G C2 hr (by decide) <| a_cons <| x_v G 2 <| a_cons <| x_str <| a_nil ⟨s, "deny", rfl, by omega, x_call G C2 hr (by decide) <| a_cons <| x_v G 2 <| a_cons <| x_str <| a_nil ⟨s, "ask", rfl, by omega, ?_⟩⟩⟩
      rw [if_pos rfl, if_neg (by decide), if_neg (by decide)]
      refine s_cons <| s_if <| t_or <| t_not <| t_val <| x_call G C3 hr (by decide) <| a_cons <| x_cat false <| x_v G 3 <| x_v G 5 ⟨(s.map (·.wd)).map D.str, [], .lst, .lst, by rw [List.length_map, List.length_map]; show s.length + 0 ≤ 40000; omega, a_nil ⟨s.map (·.wd), by rw [List.append_nil], hs.un, by rw [List.length_map]; omega, bb ⟨fun _ => ?_, fun k => nomatch k⟩⟩⟩
      refine w_or1 <| t_not <| t_val <| x_call G C3 hr (by decide) <| a_cons <| x_v G 4 <| a_nil ⟨[], rfl, by simp, Nat.zero_le _, bb ⟨(fun k => nomatch k), fun _ => s_nil ?_⟩⟩
      refine s_one <| s_ret <| x_allT G T.all [("at", 7), ("deed", 6)] <| i_enumT G T.enumerate <| x_v G 2 ⟨scrD s, s.map deedD, rfl, tupT, by rw [enumD_length]; omega, trivial, fun i d hi b => ?_, ret_val h⟩
      obtain ⟨y, hy, rfl⟩ := enumD_get hi
      obtain ⟨x, hx, rfl⟩ := maps_get hy
      refine c_tup2 (G.bk rfl) 7 6 tupT fun b => x_or <| x_ne <| x_at <| x_v (G.bk rfl) 6 <| x_int ⟨_, 0, .str "tell", .tup tupT, rfl, rfl, x_str ⟨_, .str _ _, bb ⟨fun z => ?_, fun _ => ⟨rfl, rfl⟩⟩⟩⟩
      exact absurd z (by decide)
  · have z := of_decide_eq_true z
    exfalso
    omega
end DL
set_option Elab.async false
set_option linter.all false
set_option maxRecDepth 100000
set_option maxHeartbeats 2000000
set_option pp.maxSteps 250
namespace DL
open PySem PySem.Spec PyProof.Rows L2
open PySem.W (dataLe dataLt alike alikeAll AllAlike Sortable)
abbrev s_last_moment : Stmt := top 51
theorem sc_last_moment : FnScope ["week", "count"] ["week", "count"] (defScope s_last_moment) := ⟨rfl, rfl, rfl, by decide +kernel, rfl, by decide +kernel, by decide +kernel⟩
def S_last_moment : SpecD := fun ws μ R => ∃ (k : List (List Str)) (c : Int), ws = [.val (weekD k), .val (.int c)] ∧ 1 ≤ k.length ∧ R (.val (mom c ((rndOf k c).length : Int))) μ
theorem ok_last_moment {m : Mo} (T : Tops m) (F : Stands m "last_moment" s_last_moment) (C1 : Callee m "round_of" 1 S_round_of) : Callee m "last_moment" 2 S_last_moment := by
  refine callee_of F sc_last_moment (ps := ["week", "count"]) (fun ws μ R h => by obtain ⟨_, _, rfl, _⟩ := h; rfl) (fun _ _ _ _ _ _ us hl => match us, hl with | [_, _], _ => rfl) fun X hm G fx hr ws μ R h => ?_
  subst hm
  obtain ⟨k, c, rfl, hk, h⟩ := h
  refine s_one <| s_ret <| x_tup <| a_cons <| x_v G 1 <| a_cons <| x_len G T.len <| x_call G C1 hr (by decide) <| a_cons <| x_v G 0 <| a_cons <| x_v G 1 <| a_nil ⟨k, c, rfl, hk, (rndOf k c).map .str, .tup tupT, a_nil ⟨[.int c, .int _], rfl, (by show 2 ≤ 100000; decide), ret_val ?_⟩⟩
  rw [List.length_map]
  exact h
noncomputable def comL (w : Wb) (k : List (List Str)) (p : Str) (d i e j : Int) : List (Option (Int × Int)) := if mle (d, i) (e, j) = true then (arrL w k p d i).map fun o => o.filter fun m => mle m (e, j) else List.replicate w.ps.length none
theorem comL_len {w : Wb} {k : List (List Str)} {p : Str} {d i e j : Int} : (comL w k p d i e j).length = w.ps.length := by
  unfold comL
  split
  · unfold arrL; simp
  · simp
abbrev s_comings : Stmt := top 52
theorem sc_comings : FnScope ["web", "week", "place", "moment", "end", "found", "one"] ["web", "week", "place", "moment", "end"] (defScope s_comings) := ⟨rfl, rfl, rfl, by decide +kernel, rfl, by decide +kernel, by decide +kernel⟩
def S_comings : SpecD := fun ws μ R => ∃ w k p d i e j, ws = [.val (webD w), .val (weekD k), .val (.str p), .val (mom d i), .val (mom e j)] ∧ WOk w ∧ KOk w k ∧ p ∈ w.ps ∧ R (.val (.lst ((comL w k p d i e j).map optM))) μ
theorem isNon_opt (o : Option (Int × Int)) : isNon (optM o) = o.isNone := by cases o <;> rfl
theorem ok_comings {m : Mo} (T : Tops m) (F : Stands m "comings" s_comings) (C1 : Callee m "arrivals_from" 3 S_arrivals_from) : Callee m "comings" 4 S_comings := by
  refine callee_of F sc_comings (ps := ["web", "week", "place", "moment", "end"]) (fun ws μ R h => by obtain ⟨_, _, _, _, _, _, _, rfl, _⟩ := h; rfl) (fun _ _ _ _ _ _ us hl => match us, hl with | [_, _, _, _, _], _ => rfl) fun X hm G fx hr ws μ R h => ?_
  subst hm
  obtain ⟨w, k, p, d, i, e, j, rfl, ok, kk, hp, h⟩ := h
  have hpm := ok.pm
  refine s_cons <| s_if <| t_gtM hr <| x_v G 3 <| x_v G 4 ⟨d, i, e, j, rfl, rfl, fun kt => ?_, fun kf => s_nil ?_⟩
  · refine s_one <| s_ret <| x_rep false <| x_lst <| a_cons <| x_non <| a_nil ⟨[.non], rfl, (by show 1 ≤ 100000; decide), x_len G T.len <| x_web0 (w := w) <| x_v G 0 ⟨rfl, w.ps.map .str, .tup tuxT, .non, _, rfl, rfl, by omega, by rw [List.length_map]; omega, ret_val ?_⟩⟩
    unfold comL mle at h
    rw [kt] at h
    rw [List.length_map, Int.toNat_natCast]
    simpa [optM] using h
  · refine s_cons <| s_set G 5 <| x_call G C1 hr (by decide) <| a_cons <| x_v G 0 <| a_cons <| x_v G 1 <| a_cons <| x_v G 2 <| a_cons <| x_v G 3 <| a_cons <| x_dT0 <| a_nil ⟨w, k, p, d, i, rfl, ok, kk, hp, fun _ => ?_⟩
    have hal : ((arrL w k p d i).map optM).length = w.ps.length := by unfold arrL; simp
    refine s_one <| s_ret <| x_lc (o := false) G [("one", 6)] <| lc_map (fun x => match x with | .tup [.int a, .int b] => optM ((some (a, b)).filter fun m => mle m (e, j)) | _ => .non) <| i_lst <| x_v G 5 ⟨(arrL w k p d i).map optM, .lst, by omega, trivial, fun n x hx b => ?_, ret_val ?_⟩
    · obtain ⟨o, _, rfl⟩ := maps_get hx
      refine c_name (G.bk rfl) 6 fun b => x_if <| t_and <| t_notN <| x_v (G.bk rfl) 6 ⟨_, rfl, fun k1 => ?_, fun k1 => ⟨fun z => (nomatch z), fun _ => x_non ⟨?_, rfl⟩⟩⟩
      · cases o with
        | none => cases k1
        | some m =>
          refine w_and1 <| t_leM hr <| x_v (G.bk rfl) 6 <| x_v (G.bk rfl) 4 ⟨m.1, m.2, e, j, rfl, rfl, fun k2 => x_v (G.bk rfl) 6 ⟨?_, rfl⟩, fun k2 => x_non ⟨?_, rfl⟩⟩
          · show W.val (mom m.1 m.2) = W.val (optM (if mle (m.1, m.2) (e, j) = true then some (m.1, m.2) else none))
            rw [if_pos (show mle (m.1, m.2) (e, j) = true from k2)]
            rfl
          · show W.val D.non = W.val (optM (if mle (m.1, m.2) (e, j) = true then some (m.1, m.2) else none))
            rw [if_neg (by unfold mle; rw [k2]; exact Bool.false_ne_true)]
            rfl
      · cases o with
        | none => rfl
        | some m => cases k1
    · have e1 : mle (d, i) (e, j) = true := by unfold mle; rw [kf]; rfl
      unfold comL at h
      rw [if_pos e1, List.map_map] at h
      rw [List.map_map]
      rw [show ((fun x => match x with | .tup [.int a, .int b] => optM ((some (a, b)).filter fun m => mle m (e, j)) | _ => D.non) ∘ optM) = (optM ∘ fun o : Option (Int × Int) => o.filter fun m => mle m (e, j)) from funext fun o => by cases o <;> rfl]
      exact h
/-! ### rows -/
abbrev Row := (Int × Int) × Nat × Str
def rowT (r : Row) : D := .tup [mom r.1.1 r.1.2, .str "heard", .int r.2.1, .str r.2.2]
def rowsFrom (wd : Str) : Nat → List (Option (Int × Int)) → List Row
  | _, [] => []
  | n, none :: r => rowsFrom wd (n + 1) r
  | n, some m :: r => (m, n, wd) :: rowsFrom wd (n + 1) r
def fRw (wd : Str) : D → Option D
  | .tup [a, .tup ys] => some (.tup [.tup ys, .str "heard", a, .str wd])
  | _ => none
theorem rowsFrom_eq (wd : Str) : ∀ (l : List (Option (Int × Int))) (n : Nat), ((List.range' n l.length).zipWith (fun (i : Nat) x => D.tup [.int i, x]) (l.map optM)).filterMap (fRw wd) = (rowsFrom wd n l).map rowT
  | [], _ => rfl
  | o :: l, n => by
    have ih := rowsFrom_eq wd l (n + 1)
    rw [List.length_cons, List.range'_succ, List.map_cons, List.zipWith_cons_cons]
    cases o with
    | none =>
      rw [List.filterMap_cons_none (by rfl)]
      exact ih
    | some m =>
      rw [List.filterMap_cons_some (b := rowT (m, n, wd)) (by rfl), ih]
      rfl
theorem rowsFrom_eq0 (wd : Str) (l : List (Option (Int × Int))) : (enumD (l.map optM)).filterMap (fRw wd) = (rowsFrom wd 0 l).map rowT := by
  unfold enumD
  rw [List.length_map, List.range_eq_range']
  exact rowsFrom_eq wd l 0
theorem rowsFrom_len (wd : Str) : ∀ (l : List (Option (Int × Int))) (n : Nat), (rowsFrom wd n l).length ≤ l.length
  | [], _ => Nat.le_refl _
  | none :: l, n => Nat.le_succ_of_le (rowsFrom_len wd l (n + 1))
  | some m :: l, n => Nat.succ_le_succ (rowsFrom_len wd l (n + 1))
noncomputable def hapT (w : Wb) (k : List (List Str)) (s : List Dd) (e j : Int) : List Row := s.flatMap fun x => rowsFrom x.wd 0 (comL w k x.p x.d x.i e j)
theorem hapT_len {w : Wb} {k : List (List Str)} {e j : Int} (ok : WOk w) (s : List Dd) : (hapT w k s e j).length ≤ s.length * 10 := by
  unfold hapT
  refine flatMap_len fun x _ => ?_
  have := rowsFrom_len x.wd (comL w k x.p x.d x.i e j) 0
  rw [comL_len] at this
  have := ok.pm
  omega
def sortT (l : List Row) : List Row := l.mergeSort (dataLe false fun r => py (rowT r))
theorem sortT_eq (l : List Row) : sortD (l.map rowT) = (sortT l).map rowT := (PySem.W.sort_maps rowT fun _ _ _ _ => rfl).symm
theorem rows_ok (l : List Row) : pls (l.map rowT) = true ∧ AllAlike ((l.map rowT).map py) ∧ Sortable ((l.map rowT).map py) ∧ ∀ d ∈ l.map rowT, (py d).depth ≤ 50 := by
  refine ⟨?_, ?_, ?_, ?_⟩
  · induction l with
    | nil => rfl
    | cons r l ih => show (pl (rowT r) && pls (l.map rowT)) = true; rw [ih]; rfl
  · rw [List.map_map]
    exact PySem.W.AllAlike.of fun a b => by simp [rowT, mom, py, pys, alike, alikeAll]
  · rw [List.map_map]
    exact PySem.W.Sortable.tuples fun a => ⟨_, _, rfl⟩
  · intro d hd
    obtain ⟨r, _, rfl⟩ := List.mem_map.mp hd
    simp [rowT, mom, py, pys, PyData.depth, PyData.depthAll]
abbrev s_happenings : Stmt := top 54
theorem sc_happenings : FnScope ["web", "week", "script", "end", "found", "deed", "what", "rows", "at", "one"] ["web", "week", "script", "end"] (defScope s_happenings) := ⟨rfl, rfl, rfl, by decide +kernel, rfl, by decide +kernel, by decide +kernel⟩
def S_happenings : SpecD := fun ws μ R => ∃ w k s e j, ws = [.val (webD w), .val (weekD k), .val (scrD s), .val (mom e j)] ∧ WOk w ∧ KOk w k ∧ s.length ≤ 20 ∧ (∀ x ∈ s, x.p ∈ w.ps) ∧ R (.val (.lst ((sortT (hapT w k s e j)).map rowT))) μ
theorem ok_happenings {m : Mo} (T : Tops m) (F : Stands m "happenings" s_happenings) (C1 : Callee m "comings" 4 S_comings) : Callee m "happenings" 5 S_happenings := by
  refine callee_of F sc_happenings (ps := ["web", "week", "script", "end"]) (fun ws μ R h => by obtain ⟨_, _, _, _, _, rfl, _⟩ := h; rfl) (fun _ _ _ _ _ _ us hl => match us, hl with | [_, _, _, _], _ => rfl) fun X hm G fx hr ws μ R h => ?_
  subst hm
  obtain ⟨w, k, s, e, j, rfl, ok, kk, hs, hps, h⟩ := h
  have hpm := ok.pm
  let st : Option W → Option W → Option W → DS := fun a b c => [some (.val (webD w)), some (.val (weekD k)), some (.val (scrD s)), some (.val (mom e j)), some (.own μ.length), a, b, c, none, none]
  refine s_cons <| s_set G 4 <| x_lstO <| a_nil ⟨[], rfl, Nat.zero_le _, ?_⟩
  refine s_cons <| s_for G <| i_tup <| x_v G 2 ⟨scrD s, s.map deedD, rfl, tupT, fun i δ μ' => ∃ a b c, δ = st a b c ∧ μ' = μ ++ [.ml ((hapT w k (s.take i) e j).map rowT)], ⟨none, none, none, rfl, rfl⟩, fun _ _ _ _ _ => trivial, ?_, ?_⟩
  · rintro i d δ' μ' hd ⟨a, b, c, rfl, rfl⟩
    obtain ⟨x, hx, rfl⟩ := maps_get hd
    have hxm := List.mem_of_getElem? hx
    have hh : hapT w k (s.take (i + 1)) e j = hapT w k (s.take i) e j ++ rowsFrom x.wd 0 (comL w k x.p x.d x.i e j) := by
      unfold hapT
      rw [getElem?_take_succ hx, List.flatMap_append]
      simp
    have hle := hapT_len (k := k) (e := e) (j := j) ok (s.take i)
    rw [List.length_take] at hle
    have hcl : ((comL w k x.p x.d x.i e j).map optM).length = w.ps.length := by rw [List.length_map, comL_len]
    refine g_name G 5 ?_
    refine s_one <| s_if <| t_eq <| x_at <| x_v G 5 <| x_int ⟨_, 0, .str "tell", .tup tupT, rfl, rfl, x_str ⟨_, .str _ _, fun z => (nomatch (show false = true from z)), fun _ => ?_⟩⟩
    refine s_cons <| s_set G 6 <| x_if <| t_eq <| x_at <| x_v G 5 <| x_int ⟨_, 0, .str "tell", .tup tupT, rfl, rfl, x_str ⟨_, .str _ _, fun _ => x_str ?_, fun z => (nomatch (show true = false from z))⟩⟩
    refine s_cons <| s_set G 7 <| x_call G C1 hr (by decide) <| a_cons <| x_v G 0 <| a_cons <| x_v G 1 <| a_cons <| x_at <| x_v G 5 <| x_int ⟨_, 2, .str x.p, .tup tupT, rfl, rfl, a_cons <| x_at <| x_v G 5 <| x_int ⟨_, 1, mom x.d x.i, .tup tupT, rfl, rfl, a_cons <| x_v G 3 <| a_nil ⟨w, k, x.p, x.d, x.i, e, j, rfl, ok, kk, hps x hxm, ?_⟩⟩⟩
    refine s_one <| s_expr <| x_extend <| x_v G 4 ⟨μ.length, rfl, ⟨_, at_last⟩, x_lc (o := false) G [("at", 8), ("one", 9)] <| lc_flt (fRw x.wd) <| i_enum G T.enumerate <| x_v G 7 ⟨(comL w k x.p x.d x.i e j).map optM, rfl, by rw [enumD_length]; omega, trivial, fun n y hy b => ?_, ?_⟩⟩
    · obtain ⟨z, hz, rfl⟩ := enumD_get hy
      obtain ⟨o, _, rfl⟩ := maps_get hz
      refine c_tup2 (G.bk rfl) 8 9 tupT fun b => ts_one <| t_notN <| x_v (G.bk rfl) 9 ⟨_, rfl, fun k1 b => ?_, fun k1 => ⟨?_, rfl⟩⟩
      · cases o with
        | none => cases k1
        | some mm =>
          exact x_tup <| a_cons <| x_v (G.bk rfl) 9 <| a_cons <| x_v (G.bk rfl) 6 <| a_cons <| x_v (G.bk rfl) 8 <| a_cons <| x_at <| x_v (G.bk rfl) 5 <| x_int ⟨_, 3, .str x.wd, .tup tupT, rfl, rfl, a_nil ⟨[mom mm.1 mm.2, .str "heard", .int n, .str x.wd], rfl, (by show 4 ≤ 100000; decide), _, rfl, rfl, rfl⟩⟩
      · cases o with
        | none => rfl
        | some mm => cases k1
    · rw [rowsFrom_eq0]
      refine ⟨_, _, at_last, rfl, ?_, ⟨_, _, _, rfl, ?_⟩⟩
      · rw [List.length_map, List.length_map]
        have := rowsFrom_len x.wd (comL w k x.p x.d x.i e j) 0
        rw [comL_len] at this
        omega
      · rw [set_last, hh, List.map_append]
  · rintro δ' μ' ⟨a, b, c, rfl, rfl⟩
    rw [List.length_map, List.take_length]
    obtain ⟨h1, h2, h3, h4⟩ := rows_ok (hapT w k s e j)
    refine s_one <| s_ret <| x_sorted G hr T.sorted false <| x_v G 4 ⟨_, .own at_last, h1, h2, h3, ?_, h4, ?_⟩
    · rw [List.length_map]
      have := hapT_len (k := k) (e := e) (j := j) ok s
      omega
    · show R (W.val _) ((μ ++ _).take μ.length)
      rw [List.take_left' rfl, sortT_eq]
      exact h
end DL
set_option Elab.async false
set_option linter.all false
set_option maxRecDepth 100000
set_option maxHeartbeats 2000000
set_option pp.maxSteps 250
namespace DL
open PySem PySem.Spec PyProof.Rows L2
open PySem.W (dataLe dataLt alike alikeAll AllAlike Sortable)
def placesT (ps : List Str) (what word : Str) (l : List Row) : List Str := l.filterMap fun r => if what = "heard" ∧ r.2.2 = word then ps[r.2.1]? else none
def RIn (n : Nat) (l : List Row) : Prop := ∀ r ∈ l, r.2.1 < n
abbrev s_places_of : Stmt := top 55
theorem sc_places_of : FnScope ["web", "rows", "what", "word", "row"] ["web", "rows", "what", "word"] (defScope s_places_of) := ⟨rfl, rfl, rfl, by decide +kernel, rfl, by decide +kernel, by decide +kernel⟩
def S_places_of : SpecD := fun ws μ R => ∃ (w : Wb) (l : List Row) (what word : Str), ws = [.val (webD w), .val (.lst (l.map rowT)), .val (.str what), .val (.str word)] ∧ l.length ≤ 40000 ∧ RIn w.ps.length l ∧ R (.val (.lst ((placesT w.ps what word l).map .str))) μ
theorem ok_places_of {m : Mo} (F : Stands m "places_of" s_places_of) : Callee m "places_of" 1 S_places_of := by
  refine callee_of F sc_places_of (ps := ["web", "rows", "what", "word"]) (fun ws μ R h => by obtain ⟨_, _, _, _, rfl, _⟩ := h; rfl) (fun _ _ _ _ _ _ us hl => match us, hl with | [_, _, _, _], _ => rfl) fun X hm G fx hr ws μ R h => ?_
  subst hm
  obtain ⟨w, l, what, word, rfl, hz, hin, h⟩ := h
  refine s_one <| s_ret <| x_lc (o := false) G [("row", 4)] <| lc_flt (fun d => match d with | .tup [_, _, .int a, .str wd] => if what = "heard" ∧ wd = word then (w.ps[a.toNat]?).map D.str else none | _ => none) <| i_lst <| x_v G 1 ⟨l.map rowT, .lst, by rw [List.length_map]; exact hz, trivial, fun n d hd b => ?_, ret_val ?_⟩
  · obtain ⟨r, hrr, rfl⟩ := maps_get hd
    have hlt := hin r (List.mem_of_getElem? hrr)
    have hget : w.ps[r.2.1]? = some w.ps[r.2.1] := List.getElem?_eq_getElem hlt
    refine c_name (G.bk rfl) 4 fun b => ts_one <| t_and <| t_eq <| x_at <| x_v (G.bk rfl) 4 <| x_int ⟨_, 1, .str "heard", .tup tupT, rfl, rfl, x_v (G.bk rfl) 2 ⟨_, .str _ _, fun k1 => w_and1 <| t_eq <| x_at <| x_v (G.bk rfl) 4 <| x_int ⟨_, 3, .str r.2.2, .tup tupT, rfl, rfl, x_v (G.bk rfl) 3 ⟨_, .str _ _, fun k2 b => ?_, fun k2 => ⟨?_, rfl⟩⟩⟩, fun k1 => ⟨fun z => (nomatch z), fun _ => ⟨?_, rfl⟩⟩⟩⟩
    · refine x_at <| x_web0 (w := w) <| x_v (G.bk rfl) 0 ⟨rfl, x_at <| x_v (G.bk rfl) 4 <| x_int ⟨_, 2, .int r.2.1, .tup tupT, rfl, rfl, w.ps.map .str, r.2.1, .str w.ps[r.2.1], .tup tuxT, rfl, at_nat (xs := w.ps.map D.str) (j := r.2.1) (d := .str w.ps[r.2.1]) (by rw [List.getElem?_map, hget]; rfl), _, rfl, ?_, rfl⟩⟩
      show (if what = "heard" ∧ r.2.2 = word then (w.ps[(r.2.1 : Int).toNat]?).map D.str else none) = _
      rw [if_pos ⟨(of_decide_eq_true k1).symm, of_decide_eq_true k2⟩, Int.toNat_natCast, hget]
      rfl
    · show (if what = "heard" ∧ r.2.2 = word then (w.ps[(r.2.1 : Int).toNat]?).map D.str else none) = _
      rw [if_neg (fun z => of_decide_eq_false k2 z.2)]
    · show (if what = "heard" ∧ r.2.2 = word then (w.ps[(r.2.1 : Int).toNat]?).map D.str else none) = _
      rw [if_neg (fun z => of_decide_eq_false k1 z.1.symm)]
  · have e : (l.map rowT).filterMap (fun d => match d with | .tup [_, _, .int a, .str wd] => if what = "heard" ∧ wd = word then (w.ps[a.toNat]?).map D.str else none | _ => none) = (placesT w.ps what word l).map D.str := by
      unfold placesT
      rw [List.filterMap_map, List.map_filterMap]
      congr 1
      funext r
      show (if what = "heard" ∧ r.2.2 = word then (w.ps[(r.2.1 : Int).toNat]?).map D.str else none) = _
      rw [Int.toNat_natCast]
      split <;> rfl
    show R (.val (.lst _)) μ
    rw [e]
    exact h
theorem rowsFrom_in (wd : Str) : ∀ (l : List (Option (Int × Int))) (n : Nat), RIn (n + l.length) (rowsFrom wd n l)
  | [], _ => fun _ h => nomatch h
  | none :: l, n => fun r h => by
    have := rowsFrom_in wd l (n + 1) r h
    rw [List.length_cons]
    omega
  | some m :: l, n => fun r h => by
    rw [List.length_cons]
    rcases List.mem_cons.mp h with e | e
    · rw [e]; show n < _; omega
    · have := rowsFrom_in wd l (n + 1) r e
      omega
theorem hapT_in {w : Wb} {k : List (List Str)} {s : List Dd} {e j : Int} : RIn w.ps.length (sortT (hapT w k s e j)) := by
  intro r hr
  have hr := (List.mergeSort_perm _ _).mem_iff.mp hr
  unfold hapT at hr
  obtain ⟨x, _, hr⟩ := List.mem_flatMap.mp hr
  have := rowsFrom_in x.wd _ 0 r hr
  rw [comL_len] at this
  omega
theorem sortT_len (l : List Row) : (sortT l).length = l.length := List.length_mergeSort _
abbrev s_rows_of : Stmt := top 58
theorem sc_rows_of : FnScope ["web", "week", "script", "count"] ["web", "week", "script", "count"] (defScope s_rows_of) := ⟨rfl, rfl, rfl, by decide +kernel, rfl, by decide +kernel, by decide +kernel⟩
noncomputable def rwsT (w : Wb) (k : List (List Str)) (s : List Dd) (c : Int) : List Row := sortT (hapT w k s c (rndOf k c).length)
theorem rwsT_len {w : Wb} {k : List (List Str)} (ok : WOk w) {s : List Dd} (hs : s.length ≤ 20) {c : Int} : (rwsT w k s c).length ≤ 40000 := by
  unfold rwsT
  rw [sortT_len]
  have := hapT_len (k := k) (e := c) (j := (rndOf k c).length) ok s
  omega
def S_rows_of : SpecD := fun ws μ R => ∃ w k s c, ws = [.val (webD w), .val (weekD k), .val (scrD s), .val (.int c)] ∧ WOk w ∧ KOk w k ∧ SOk w k s ∧ 1 ≤ c ∧ c ≤ 200 ∧ R (.val (.lst ((rwsT w k s c).map rowT))) μ
theorem ok_rows_of {m : Mo} (T : Tops m) (F : Stands m "rows_of" s_rows_of) (C1 : Callee m "need_web" 4 S_need_web) (C2 : Callee m "need_week" 3 S_need_week) (C3 : Callee m "is_script" 5 S_is_script) (C4 : Callee m "need_count" 3 S_need_count) (C5 : Callee m "happenings" 5 S_happenings) (C6 : Callee m "last_moment" 2 S_last_moment) : Callee m "rows_of" 6 S_rows_of := by
  refine callee_of F sc_rows_of (ps := ["web", "week", "script", "count"]) (fun ws μ R h => by obtain ⟨_, _, _, _, rfl, _⟩ := h; rfl) (fun _ _ _ _ _ _ us hl => match us, hl with | [_, _, _, _], _ => rfl) fun X hm G fx hr ws μ R h => ?_
  subst hm
  obtain ⟨w, k, s, c, rfl, ok, kk, hs, h1, h2, h⟩ := h
  refine s_cons <| s_expr <| x_call G C1 hr (by decide) <| a_cons <| x_v G 0 <| a_nil ⟨w, rfl, ok, ?_⟩
  refine s_cons <| s_expr <| x_call G C2 hr (by decide) <| a_cons <| x_v G 0 <| a_cons <| x_v G 1 <| a_nil ⟨w, k, rfl, ok, kk, ?_⟩
  refine s_cons <| s_if <| t_not <| t_val <| x_call G C3 hr (by decide) <| a_cons <| x_v G 0 <| a_cons <| x_v G 1 <| a_cons <| x_v G 2 <| a_nil ⟨w, k, s, rfl, kk.lo, hs, bb ⟨(fun k => nomatch k), fun _ => s_nil ?_⟩⟩
  refine s_cons <| s_expr <| x_call G C4 hr (by decide) <| a_cons <| x_v G 3 <| a_cons <| x_int <| a_cons <| x_gint G T.MOST_DAYS <| a_nil ⟨c, 1, 200, rfl, h1, h2, ?_⟩
  exact s_one <| s_ret <| x_call G C5 hr (by decide) <| a_cons <| x_v G 0 <| a_cons <| x_v G 1 <| a_cons <| x_v G 2 <| a_cons <| x_call G C6 hr (by decide) <| a_cons <| x_v G 1 <| a_cons <| x_v G 3 <| a_nil ⟨k, c, rfl, kk.lo, a_nil ⟨w, k, s, c, _, rfl, ok, kk, hs.l, fun x hx => (hs.each x hx).p, ret_val h⟩⟩
abbrev s_run_script : Stmt := top 59
theorem sc_run_script : FnScope ["web", "week", "script", "count", "rows", "moment", "what", "at", "word"] ["web", "week", "script", "count"] (defScope s_run_script) := ⟨rfl, rfl, rfl, by decide +kernel, rfl, by decide +kernel, by decide +kernel⟩
def namT (ps : List Str) (r : Row) : D := .tup [mom r.1.1 r.1.2, .str "heard", .str (ps.getD r.2.1 Str.empty), .str r.2.2]
def S_run_script : SpecD := fun ws μ R => ∃ w k s c, ws = [.val (webD w), .val (weekD k), .val (scrD s), .val (.int c)] ∧ WOk w ∧ KOk w k ∧ SOk w k s ∧ 1 ≤ c ∧ c ≤ 200 ∧ R (.val (.lst ((rwsT w k s c).map (namT w.ps)))) μ
theorem ok_run_script {m : Mo} (F : Stands m "run_script" s_run_script) (C1 : Callee m "rows_of" 6 S_rows_of) : Callee m "run_script" 7 S_run_script := by
  refine callee_of F sc_run_script (ps := ["web", "week", "script", "count"]) (fun ws μ R h => by obtain ⟨_, _, _, _, rfl, _⟩ := h; rfl) (fun _ _ _ _ _ _ us hl => match us, hl with | [_, _, _, _], _ => rfl) fun X hm G fx hr ws μ R h => ?_
  subst hm
  obtain ⟨w, k, s, c, rfl, ok, kk, hs, h1, h2, h⟩ := h
  refine s_cons <| s_set G 4 <| x_call G C1 hr (by decide) <| a_cons <| x_v G 0 <| a_cons <| x_v G 1 <| a_cons <| x_v G 2 <| a_cons <| x_v G 3 <| a_nil ⟨w, k, s, c, rfl, ok, kk, hs, h1, h2, ?_⟩
  refine s_one <| s_ret <| x_lc (o := false) G [("moment", 5), ("what", 6), ("at", 7), ("word", 8)] <| lc_map (fun d => match d with | .tup [a, b, .int n, c] => .tup [a, b, .str (w.ps.getD n.toNat Str.empty), c] | _ => .non) <| i_lst <| x_v G 4 ⟨(rwsT w k s c).map rowT, .lst, by rw [List.length_map]; exact rwsT_len ok hs.l, trivial, fun n d hd b => ?_, ret_val ?_⟩
  · obtain ⟨r, hrr, rfl⟩ := maps_get hd
    have hlt : r.2.1 < w.ps.length := hapT_in r (List.mem_of_getElem? hrr)
    have hget : w.ps[r.2.1]? = some w.ps[r.2.1] := List.getElem?_eq_getElem hlt
    refine c_tup4 (G.bk rfl) 5 6 7 8 tupT fun b => x_tup <| a_cons <| x_v (G.bk rfl) 5 <| a_cons <| x_v (G.bk rfl) 6 <| a_cons <| x_at <| x_web0 (w := w) <| x_v (G.bk rfl) 0 ⟨rfl, x_v (G.bk rfl) 7 ⟨w.ps.map .str, r.2.1, .str w.ps[r.2.1], .tup tuxT, rfl, at_nat (xs := w.ps.map D.str) (j := r.2.1) (d := .str w.ps[r.2.1]) (by rw [List.getElem?_map, hget]; rfl), a_cons <| x_v (G.bk rfl) 8 <| a_nil ⟨[mom r.1.1 r.1.2, .str "heard", .str w.ps[r.2.1], .str r.2.2], rfl, (by show 4 ≤ 100000; decide), ?_, rfl⟩⟩⟩
    show _ = W.val (.tup [mom r.1.1 r.1.2, .str "heard", .str (w.ps.getD (r.2.1 : Int).toNat Str.empty), .str r.2.2])
    rw [Int.toNat_natCast, List.getD_eq_getElem?_getD, hget]
    rfl
  · rw [List.map_map]
    exact h
theorem texts_ok (l : List Str) : pls (l.map .str) = true ∧ AllAlike ((l.map D.str).map py) ∧ Sortable ((l.map D.str).map py) ∧ ∀ d ∈ l.map D.str, (py d).depth ≤ 50 := by
  refine ⟨?_, ?_, ?_, ?_⟩
  · induction l with
    | nil => rfl
    | cons r l ih => show (pl (.str r) && pls (l.map .str)) = true; rw [ih]; rfl
  · rw [List.map_map]
    exact PySem.W.AllAlike.of fun a b => by simp [py, alike]
  · rw [List.map_map]
    exact PySem.W.Sortable.others fun a => by simp [py]
  · intro d hd
    obtain ⟨r, _, rfl⟩ := List.mem_map.mp hd
    simp [py, PyData.depth]
def sortS (l : List Str) : List Str := l.mergeSort (dataLe false fun r => py (.str r))
theorem sortS_eq (l : List Str) : sortD (l.map .str) = (sortS l).map .str := (PySem.W.sort_maps D.str fun _ _ _ _ => rfl).symm
theorem sortS_nil : sortS [] = [] := by unfold sortS; exact List.mergeSort_nil
theorem sortS_perm (l : List Str) : (sortS l).Perm l := List.mergeSort_perm _ _
theorem sortS_len (l : List Str) : (sortS l).length = l.length := List.length_mergeSort _
/-- sorted(texts) -/
theorem x_sortS {X : Cx} {sc : Scope} {N : List Str} {δ : DS} {μ : List M} {R : W → List M → Prop} {e : Expr} {pos p : Pos} {k : Nat} (G : GX X sc N) (hr : Room k X.A) (hm : (moOf X).mg "sorted" = none) (o : Bool) (h : WE X e δ μ fun w μ1 => ∃ xs : List Str, LstW μ1 w (xs.map .str) ∧ xs.length ≤ 40000 ∧ mkL o R ((sortS xs).map .str) μ1)
    (hg : sc.names.lookup ("sorted" : Str) = some .globalImplicit := by rfl) (hs : starEach [e] X.env = (false, eval e X.env) :: starEach [] X.env := by rfl) : WE X (.Call (.Name "sorted" p) [e] [] pos) δ μ R :=
  x_sorted G hr hm o (h.mono fun w μ1 ⟨xs, h1, h2, h3⟩ => ⟨xs.map .str, h1, (texts_ok xs).1, (texts_ok xs).2.1, (texts_ok xs).2.2.1, by rw [List.length_map]; exact h2, (texts_ok xs).2.2.2, by rw [sortS_eq]; exact h3⟩) hg hs
abbrev s_standing : Stmt := top 60
theorem sc_standing : FnScope ["web", "week", "script", "count", "rows", "found", "word", "denied", "believers", "place"] ["web", "week", "script", "count"] (defScope s_standing) := ⟨rfl, rfl, rfl, by decide +kernel, rfl, by decide +kernel, by decide +kernel⟩
noncomputable def stdT (w : Wb) (k : List (List Str)) (s : List Dd) (c : Int) (wd : Str) : List Str := sortS (placesT w.ps "heard" wd (rwsT w k s c))
noncomputable def stdD (w : Wb) (k : List (List Str)) (s : List Dd) (c : Int) (wd : Str) : D := .tup [.str wd, .tup ((stdT w k s c wd).map .str), .tup []]
def S_standing : SpecD := fun ws μ R => ∃ w k s c, ws = [.val (webD w), .val (weekD k), .val (scrD s), .val (.int c)] ∧ WOk w ∧ KOk w k ∧ SOk w k s ∧ 1 ≤ c ∧ c ≤ 200 ∧ R (.val (.lst ((sortS (s.map (·.wd))).map (stdD w k s c)))) μ
theorem placesT_len {ps : List Str} {a b : Str} {l : List Row} : (placesT ps a b l).length ≤ l.length := List.length_filterMap_le _ _
theorem placesT_denied {ps : List Str} {b : Str} {l : List Row} : placesT ps "denied" b l = [] := by
  unfold placesT
  refine List.filterMap_eq_nil_iff.mpr fun r _ => ?_
  rw [if_neg (fun z => absurd z.1 (by decide))]
theorem ok_standing {m : Mo} (T : Tops m) (F : Stands m "standing" s_standing) (C1 : Callee m "rows_of" 6 S_rows_of) (C2 : Callee m "words_of" 1 S_words_of) (C3 : Callee m "places_of" 1 S_places_of) : Callee m "standing" 7 S_standing := by
  refine callee_of F sc_standing (ps := ["web", "week", "script", "count"]) (fun ws μ R h => by obtain ⟨_, _, _, _, rfl, _⟩ := h; rfl) (fun _ _ _ _ _ _ us hl => match us, hl with | [_, _, _, _], _ => rfl) fun X hm G fx hr ws μ R h => ?_
  subst hm
  obtain ⟨w, k, s, c, rfl, ok, kk, hs, h1, h2, h⟩ := h
  have hrl := rwsT_len (k := k) (c := c) ok hs.l
  have hrin : RIn w.ps.length (rwsT w k s c) := hapT_in
  have hsl := hs.l
  let st : Option W → Option W → Option W → DS := fun a b e => [some (.val (webD w)), some (.val (weekD k)), some (.val (scrD s)), some (.val (.int c)), some (.val (.lst ((rwsT w k s c).map rowT))), some (.own μ.length), a, b, e, none]
  refine s_cons <| s_set G 4 <| x_call G C1 hr (by decide) <| a_cons <| x_v G 0 <| a_cons <| x_v G 1 <| a_cons <| x_v G 2 <| a_cons <| x_v G 3 <| a_nil ⟨w, k, s, c, rfl, ok, kk, hs, h1, h2, ?_⟩
  refine s_cons <| s_set G 5 <| x_lstO <| a_nil ⟨[], rfl, Nat.zero_le _, ?_⟩
  refine s_cons <| s_for G <| i_lst <| x_sortS G hr T.sorted false <| x_call G C2 hr (by decide) <| a_cons <| x_v G 2 <| a_cons <| x_str <| a_nil ⟨s, "tell", rfl, by omega, ?_⟩
  rw [if_pos rfl]
  refine ⟨s.map (·.wd), .lst, by rw [List.length_map]; omega, _, .lst, fun i δ μ' => ∃ a b e, δ = st a b e ∧ μ' = μ ++ [.ml (((sortS (s.map (·.wd))).take i).map (stdD w k s c))], ⟨none, none, none, rfl, rfl⟩, fun _ _ _ _ _ => trivial, ?_, ?_⟩
  · rintro i d δ' μ' hd ⟨a, b, e, rfl, rfl⟩
    obtain ⟨wd, hwd, rfl⟩ := maps_get hd
    have hi : i < s.length := by
      have := (List.getElem?_eq_some_iff.mp hwd).1
      rw [sortS_len, List.length_map] at this
      exact this
    have hpl := placesT_len (ps := w.ps) (a := "heard") (b := wd) (l := rwsT w k s c)
    refine g_name G 6 ?_
    refine s_cons <| s_set G 7 <| x_call G C3 hr (by decide) <| a_cons <| x_v G 0 <| a_cons <| x_v G 4 <| a_cons <| x_str <| a_cons <| x_v G 6 <| a_nil ⟨w, rwsT w k s c, "denied", wd, rfl, hrl, hrin, ?_⟩
    rw [placesT_denied]
    refine s_cons <| s_setLc (o := false) G [("place", 9)] 8 <| lc_flt some <| i_lst <| x_call G C3 hr (by decide) <| a_cons <| x_v G 0 <| a_cons <| x_v G 4 <| a_cons <| x_str <| a_cons <| x_v G 6 <| a_nil ⟨w, rwsT w k s c, "heard", wd, rfl, hrl, hrin, _, .lst, by rw [List.length_map]; omega, trivial, fun n y hy b => ?_, ?_⟩
    · obtain ⟨z, _, rfl⟩ := maps_get hy
      exact c_name (G.bk rfl) 9 fun b => ts_one <| t_notInS <| x_v (G.bk rfl) 9 <| x_v (G.bk rfl) 7 ⟨z, [], rfl, .lst .lst, fun _ b => x_v (G.bk rfl) 9 ⟨_, rfl, rfl, rfl⟩, fun z => (nomatch (show true = false from z))⟩
    · rw [show ((placesT w.ps "heard" wd (rwsT w k s c)).map D.str).filterMap some = (placesT w.ps "heard" wd (rwsT w k s c)).map D.str by simp]
      refine s_one <| s_expr <| x_append <| x_v G 5 ⟨μ.length, rfl, ⟨_, at_last⟩, x_tup <| a_cons <| x_v G 6 <| a_cons <| x_tuple G T.tuple <| x_sortS G hr T.sorted false <| x_v G 8 ⟨placesT w.ps "heard" wd (rwsT w k s c), .lst, by omega, _, .lst, a_cons <| x_tuple G T.tuple <| x_sortS G hr T.sorted false <| x_v G 7 ⟨[], .lst, Nat.zero_le _, _, .lst, a_nil ⟨[.str wd, .tup _, .tup _], rfl, (by show 3 ≤ 100000; decide), _, _, at_last, rfl, ?_, ?_⟩⟩⟩⟩
      · rw [List.length_map, List.length_take]
        omega
      · refine ⟨_, _, _, rfl, ?_⟩
        rw [set_last, getElem?_take_succ hwd, List.map_append, sortS_nil]
        rfl
  · rintro δ' μ' ⟨a, b, e, rfl, rfl⟩
    rw [List.length_map, List.take_length]
    refine s_one <| s_ret <| x_v G 5 ?_
    show (if μ.length < μ.length then _ else _)
    rw [if_neg (Nat.lt_irrefl _), List.take_left' rfl]
    exact ⟨_, at_last, .inl h⟩
abbrev s_moment_rows : Stmt := top 62
theorem sc_moment_rows : FnScope ["web", "week", "place"] ["web", "week"] (defScope s_moment_rows) := ⟨rfl, rfl, rfl, by decide +kernel, rfl, by decide +kernel, by decide +kernel⟩
noncomputable def mrowD (w : Wb) (k : List (List Str)) (p : Str) : D := .lst ((arrL w k p 1 0).map optM)
def S_moment_rows : SpecD := fun ws μ R => ∃ w k, ws = [.val (webD w), .val (weekD k)] ∧ WOk w ∧ KOk w k ∧ R (.val (.lst (w.ps.map (mrowD w k)))) μ
theorem ok_moment_rows {m : Mo} (F : Stands m "moment_rows" s_moment_rows) (C1 : Callee m "arrivals_from" 3 S_arrivals_from) : Callee m "moment_rows" 4 S_moment_rows := by
  refine callee_of F sc_moment_rows (ps := ["web", "week"]) (fun ws μ R h => by obtain ⟨_, _, rfl, _⟩ := h; rfl) (fun _ _ _ _ _ _ us hl => match us, hl with | [_, _], _ => rfl) fun X hm G fx hr ws μ R h => ?_
  subst hm
  obtain ⟨w, k, rfl, ok, kk, h⟩ := h
  have hpm := ok.pm
  refine s_one <| s_ret <| x_lc (o := false) G [("place", 2)] <| lc_map (fun d => match d with | .str p => mrowD w k p | _ => .non) <| i_tup <| x_web0 (w := w) <| x_v G 0 ⟨rfl, psD w.ps, w.ps.map .str, rfl, tuxT, by rw [List.length_map]; omega, trivial, fun n d hd b => ?_, ret_val ?_⟩
  · obtain ⟨p, hp, rfl⟩ := maps_get hd
    exact c_name (G.bk rfl) 2 fun b => x_call (G.bk rfl) C1 hr (by decide) <| a_cons <| x_v (G.bk rfl) 0 <| a_cons <| x_v (G.bk rfl) 1 <| a_cons <| x_v (G.bk rfl) 2 <| a_cons <| x_tup <| a_cons <| x_int <| a_cons <| x_int <| a_nil ⟨[.int 1, .int 0], rfl, (by show 2 ≤ 100000; decide), a_cons <| x_dT0 <| a_nil ⟨w, k, p, 1, 0, rfl, ok, kk, List.mem_of_getElem? hp, fun _ => ⟨rfl, rfl⟩⟩⟩
  · rw [List.map_map]
    exact h
abbrev s_known_at : Stmt := top 63
theorem sc_known_at : FnScope ["web", "week", "moment", "rows", "found", "at", "known", "place", "row"] ["web", "week", "moment"] (defScope s_known_at) := ⟨rfl, rfl, rfl, by decide +kernel, rfl, by decide +kernel, by decide +kernel⟩
/-- who is known of at the place q by (e, j) -/
noncomputable def knwT (w : Wb) (k : List (List Str)) (e j : Int) (q : Str) : List Str := w.ps.filter fun p => (kget (arrF w k p 1 0) q).any fun m => mle m (e, j)
noncomputable def fKn (w : Wb) (k : List (List Str)) (e j : Int) (q : Str) : D → Option D
  | .tup [.str p, _] => if (kget (arrF w k p 1 0) q).any (fun m => mle m (e, j)) = true then some (.str p) else none
  | _ => none
theorem fKn_eq (w : Wb) (k : List (List Str)) (e j : Int) (q p : Str) (x : D) : fKn w k e j q (.tup [.str p, x]) = if (kget (arrF w k p 1 0) q).any (fun m => mle m (e, j)) = true then some (.str p) else none := rfl
theorem fKn_zip (w : Wb) (k : List (List Str)) (e j : Int) (q : Str) : ∀ l : List Str, (zipD (l.map D.str) (l.map (mrowD w k))).filterMap (fKn w k e j q) = (l.filter fun p => (kget (arrF w k p 1 0) q).any fun m => mle m (e, j)).map D.str
  | [] => rfl
  | p :: l => by
    have ih := fKn_zip w k e j q l
    unfold zipD at ih ⊢
    rw [List.map_cons, List.map_cons, List.zipWith_cons_cons, List.filter_cons]
    by_cases hc : (kget (arrF w k p 1 0) q).any (fun m => mle m (e, j)) = true
    · rw [List.filterMap_cons_some (b := D.str p) (by rw [fKn_eq, if_pos hc]), ih, if_pos hc]
      rfl
    · rw [List.filterMap_cons_none (by rw [fKn_eq, if_neg hc]), ih, if_neg hc]
def S_known_at : SpecD := fun ws μ R => ∃ w k e j, ws = [.val (webD w), .val (weekD k), .val (mom e j)] ∧ WOk w ∧ KOk w k ∧ MomOk k e j ∧ R (.val (.lst (w.ps.map fun q => .tup ((sortS (knwT w k e j q)).map .str)))) μ
theorem ok_known_at {m : Mo} (T : Tops m) (F : Stands m "known_at" s_known_at) (C1 : Callee m "need_web" 4 S_need_web) (C2 : Callee m "need_week" 3 S_need_week) (C3 : Callee m "need_moment" 4 S_need_moment) (C4 : Callee m "moment_rows" 4 S_moment_rows) : Callee m "known_at" 5 S_known_at := by
  refine callee_of F sc_known_at (ps := ["web", "week", "moment"]) (fun ws μ R h => by obtain ⟨_, _, _, _, rfl, _⟩ := h; rfl) (fun _ _ _ _ _ _ us hl => match us, hl with | [_, _, _], _ => rfl) fun X hm G fx hr ws μ R h => ?_
  subst hm
  obtain ⟨w, k, e, j, rfl, ok, kk, hm, h⟩ := h
  have hpm := ok.pm
  let st : Option W → Option W → DS := fun a b => [some (.val (webD w)), some (.val (weekD k)), some (.val (mom e j)), some (.val (.lst (w.ps.map (mrowD w k)))), some (.own μ.length), a, b, none, none]
  refine s_cons <| s_expr <| x_call G C1 hr (by decide) <| a_cons <| x_v G 0 <| a_nil ⟨w, rfl, ok, ?_⟩
  refine s_cons <| s_expr <| x_call G C2 hr (by decide) <| a_cons <| x_v G 0 <| a_cons <| x_v G 1 <| a_nil ⟨w, k, rfl, ok, kk, ?_⟩
  refine s_cons <| s_expr <| x_call G C3 hr (by decide) <| a_cons <| x_v G 0 <| a_cons <| x_v G 1 <| a_cons <| x_v G 2 <| a_nil ⟨w, k, e, j, rfl, ok, kk, hm, ?_⟩
  refine s_cons <| s_set G 3 <| x_call G C4 hr (by decide) <| a_cons <| x_v G 0 <| a_cons <| x_v G 1 <| a_nil ⟨w, k, rfl, ok, kk, ?_⟩
  refine s_cons <| s_set G 4 <| x_lstO <| a_nil ⟨[], rfl, Nat.zero_le _, ?_⟩
  refine s_cons <| s_for G <| i_rng1 G T.range <| x_len G T.len <| x_web0 (w := w) <| x_v G 0 ⟨rfl, w.ps.map .str, .tup tuxT, _, rfl, by omega, by rw [List.length_map]; omega, fun i δ μ' => ∃ a b, δ = st a b ∧ μ' = μ ++ [.ml ((w.ps.take i).map fun q => .tup ((sortS (knwT w k e j q)).map .str))], ⟨none, none, rfl, rfl⟩, fun _ _ _ _ _ => trivial, ?_, ?_⟩
  · rintro i d δ' μ' hd ⟨a, b, rfl, rfl⟩
    rw [List.length_map, Int.toNat_natCast] at hd
    obtain ⟨hlt, rfl⟩ := rng_get hd
    rw [Int.zero_add]
    have hq : w.ps[i]? = some w.ps[i] := List.getElem?_eq_getElem hlt
    have hkl : (knwT w k e j w.ps[i]).length ≤ w.ps.length := List.length_filter_le _ _
    refine g_name G 5 ?_
    refine s_cons <| s_setLc (o := false) G [("place", 7), ("row", 8)] 6 <| lc_flt (fKn w k e j w.ps[i]) <| i_zipM G T.zip <| x_web0 (w := w) <| x_v G 0 ⟨rfl, x_v G 3 ⟨psD w.ps, w.ps.map .str, w.ps.map (mrowD w k), rfl, tuxT, rfl, by rw [zipD_length, List.length_map]; omega, trivial, fun n y hy b => ?_, ?_⟩⟩
    · obtain ⟨z1, z2, hz1, hz2, rfl⟩ := zipD_get hy
      obtain ⟨p, hp, rfl⟩ := maps_get hz1
      obtain ⟨p', hp', rfl⟩ := maps_get hz2
      rw [hp] at hp'
      cases hp'
      obtain ⟨o, ho⟩ : ∃ o, kget (arrF w k p 1 0) w.ps[i] = o := ⟨_, rfl⟩
      have hat : atI ((arrL w k p 1 0).map optM) (i : Int) = some (optM o) := at_nat (by
        unfold arrL
        rw [List.map_map, List.getElem?_map, hq, ← ho]
        rfl)
      refine c_tup2 (G.bk rfl) 7 8 tupT fun b => ts_one <| t_and <| t_notN <| x_at <| x_v (G.bk rfl) 8 <| x_v (G.bk rfl) 5 ⟨(arrL w k p 1 0).map optM, i, _, .lst .lst, rfl, hat, _, rfl, fun k1 => ?_, fun k1 => ⟨fun z => (nomatch z), fun _ => ⟨?_, rfl⟩⟩⟩
      · cases o with
        | none => cases k1
        | some mm =>
          refine w_and1 <| t_leM hr <| x_at <| x_v (G.bk rfl) 8 <| x_v (G.bk rfl) 5 ⟨(arrL w k p 1 0).map optM, i, _, .lst .lst, rfl, hat, x_v (G.bk rfl) 2 ⟨mm.1, mm.2, e, j, rfl, rfl, fun k2 b => x_v (G.bk rfl) 7 ⟨_, rfl, ?_, rfl⟩, fun k2 => ⟨?_, rfl⟩⟩⟩
          · rw [fKn_eq, ho]
            exact if_pos (show mle mm (e, j) = true from k2)
          · rw [fKn_eq, ho]
            exact if_neg (show ¬ mle mm (e, j) = true from fun z => by unfold mle at z; rw [k2] at z; cases z)
      · cases o with
        | none => rw [fKn_eq, ho]; rfl
        | some mm => cases k1
    · rw [fKn_zip]
      show WSs X _ _ _ _
      refine s_one <| s_expr <| x_append <| x_v G 4 ⟨μ.length, rfl, ⟨_, at_last⟩, x_tuple G T.tuple <| x_sortS G hr T.sorted false <| x_v G 6 ⟨knwT w k e j w.ps[i], .lst, by omega, _, .lst, _, _, at_last, rfl, ?_, ?_⟩⟩
      · rw [List.length_map, List.length_take]
        omega
      · refine ⟨_, _, rfl, ?_⟩
        rw [set_last, getElem?_take_succ hq, List.map_append]
        rfl
  · rintro δ' μ' ⟨a, b, rfl, rfl⟩
    rw [List.length_map, Int.toNat_natCast, rng_length, List.take_length]
    refine s_one <| s_ret <| x_v G 4 ?_
    show (if μ.length < μ.length then _ else _)
    rw [if_neg (Nat.lt_irrefl _), List.take_left' rfl]
    exact ⟨_, at_last, .inl h⟩
abbrev s_need_start : Stmt := top 65
theorem sc_need_start : FnScope ["web", "week", "place", "moment"] ["web", "week", "place", "moment"] (defScope s_need_start) := ⟨rfl, rfl, rfl, by decide +kernel, rfl, by decide +kernel, by decide +kernel⟩
def S_need_start : SpecD := fun ws μ R => ∃ w k p d i, ws = [.val (webD w), .val (weekD k), .val (.str p), .val (mom d i)] ∧ WOk w ∧ KOk w k ∧ p ∈ w.ps ∧ MomOk k d i ∧ R (.val .non) μ
theorem ok_need_start {m : Mo} (F : Stands m "need_start" s_need_start) (C1 : Callee m "need_web" 4 S_need_web) (C2 : Callee m "need_week" 3 S_need_week) (C3 : Callee m "need_place" 2 S_need_place) (C4 : Callee m "need_moment" 4 S_need_moment) : Callee m "need_start" 5 S_need_start := by
  refine callee_of F sc_need_start (ps := ["web", "week", "place", "moment"]) (fun ws μ R h => by obtain ⟨_, _, _, _, _, rfl, _⟩ := h; rfl) (fun _ _ _ _ _ _ us hl => match us, hl with | [_, _, _, _], _ => rfl) fun X hm G fx hr ws μ R h => ?_
  subst hm
  obtain ⟨w, k, p, d, i, rfl, ok, kk, hp, hm, h⟩ := h
  refine s_cons <| s_expr <| x_call G C1 hr (by decide) <| a_cons <| x_v G 0 <| a_nil ⟨w, rfl, ok, ?_⟩
  refine s_cons <| s_expr <| x_call G C2 hr (by decide) <| a_cons <| x_v G 0 <| a_cons <| x_v G 1 <| a_nil ⟨w, k, rfl, ok, kk, ?_⟩
  refine s_cons <| s_expr <| x_call G C3 hr (by decide) <| a_cons <| x_v G 0 <| a_cons <| x_v G 2 <| a_nil ⟨w, p, rfl, hp, ?_⟩
  exact s_one <| s_expr <| x_call G C4 hr (by decide) <| a_cons <| x_v G 0 <| a_cons <| x_v G 1 <| a_cons <| x_v G 3 <| a_nil ⟨w, k, d, i, rfl, ok, kk, hm, ret_val h⟩
abbrev s_arrivals : Stmt := top 66
theorem sc_arrivals : FnScope ["web", "week", "place", "moment"] ["web", "week", "place", "moment"] (defScope s_arrivals) := ⟨rfl, rfl, rfl, by decide +kernel, rfl, by decide +kernel, by decide +kernel⟩
def S_arrivals : SpecD := fun ws μ R => ∃ w k p d i, ws = [.val (webD w), .val (weekD k), .val (.str p), .val (mom d i)] ∧ WOk w ∧ KOk w k ∧ p ∈ w.ps ∧ MomOk k d i ∧ R (.val (.lst ((arrL w k p d i).map optM))) μ
theorem ok_arrivals {m : Mo} (F : Stands m "arrivals" s_arrivals) (C1 : Callee m "need_start" 5 S_need_start) (C2 : Callee m "arrivals_from" 3 S_arrivals_from) : Callee m "arrivals" 6 S_arrivals := by
  refine callee_of F sc_arrivals (ps := ["web", "week", "place", "moment"]) (fun ws μ R h => by obtain ⟨_, _, _, _, _, rfl, _⟩ := h; rfl) (fun _ _ _ _ _ _ us hl => match us, hl with | [_, _, _, _], _ => rfl) fun X hm G fx hr ws μ R h => ?_
  subst hm
  obtain ⟨w, k, p, d, i, rfl, ok, kk, hp, hm, h⟩ := h
  refine s_cons <| s_expr <| x_call G C1 hr (by decide) <| a_cons <| x_v G 0 <| a_cons <| x_v G 1 <| a_cons <| x_v G 2 <| a_cons <| x_v G 3 <| a_nil ⟨w, k, p, d, i, rfl, ok, kk, hp, hm, ?_⟩
  exact s_one <| s_ret <| x_call G C2 hr (by decide) <| a_cons <| x_v G 0 <| a_cons <| x_v G 1 <| a_cons <| x_v G 2 <| a_cons <| x_v G 3 <| a_cons <| x_dT0 <| a_nil ⟨w, k, p, d, i, rfl, ok, kk, hp, fun _ => ret_val h⟩
end DL
set_option Elab.async false
set_option linter.all false
set_option maxRecDepth 100000
set_option maxHeartbeats 2000000
set_option pp.maxSteps 250
namespace DL
open PySem PySem.Spec PyProof.Rows L2
/-- a tree: π a b the names of the roads from a to b -/
structure TW (w : Wb) (π : Str → Str → List Str) : Prop where
  self : ∀ a ∈ w.ps, π a a = []
  edge : ∀ r ∈ w.rs, ∀ a ∈ w.ps, π a r.2.2 = π a r.2.1 ++ [r.1] ∨ π a r.2.1 = π a r.2.2 ++ [r.1]
  last : ∀ a ∈ w.ps, ∀ x ∈ w.ps, x ≠ a → ∃ r ∈ w.rs, ∃ y ∈ w.ps, ((r.2.1 = x ∧ r.2.2 = y) ∨ (r.2.1 = y ∧ r.2.2 = x)) ∧ π a x = π a y ++ [r.1]
  rev : ∀ a ∈ w.ps, ∀ b ∈ w.ps, π b a = (π a b).reverse
  len : ∀ a ∈ w.ps, ∀ b ∈ w.ps, (π a b).length < w.ps.length
theorem TW.all {w : Wb} {π : Str → Str → List Str} (t : TW w π) {S : Str → Prop} {a : Str} (ha : a ∈ w.ps) (h0 : S a) (hS : ∀ r ∈ w.rs, S r.2.1 ↔ S r.2.2) : ∀ x ∈ w.ps, S x := by
  have key : ∀ n, ∀ x ∈ w.ps, (π a x).length ≤ n → S x := by
    intro n
    induction n with
    | zero =>
      intro x hx hl
      by_cases e : x = a
      · rw [e]; exact h0
      · obtain ⟨r, _, y, _, _, h⟩ := t.last a ha x hx e
        rw [h, List.length_append, List.length_singleton] at hl
        omega
    | succ n ih =>
      intro x hx hl
      by_cases e : x = a
      · rw [e]; exact h0
      · obtain ⟨r, hr, y, hy, hxy, h⟩ := t.last a ha x hx e
        rw [h, List.length_append, List.length_singleton] at hl
        have sy := ih y hy (by omega)
        rcases hxy with ⟨e1, e2⟩ | ⟨e1, e2⟩
        · have := (hS r hr).mpr (by rw [e2]; exact sy)
          rw [e1] at this; exact this
        · have := (hS r hr).mp (by rw [e1]; exact sy)
          rw [e2] at this; exact this
  exact fun x hx => key _ x hx (Nat.le_refl _)
/-- the road's name tells the road -/
theorem road_one {w : Wb} (ok : WOk w) {r r' : Str × Str × Str} (h : r ∈ w.rs) (h' : r' ∈ w.rs) (e : r.1 = r'.1) : r = r' := by
  have h1 := endOf_road ok.rn h
  have h2 := endOf_road ok.rn h'
  rw [e, h2] at h1
  exact Prod.ext e h1.symm
/-- the last road of a way tells its last two places -/
theorem TW.last_one {w : Wb} {π : Str → Str → List Str} (ok : WOk w) (t : TW w π) {a x y : Str} (ha : a ∈ w.ps) {r : Str × Str × Str} (hr : r ∈ w.rs) (hx : x ∈ w.ps) (hxy : (r.2.1 = x ∧ r.2.2 = y) ∨ (r.2.1 = y ∧ r.2.2 = x)) (h : π a x = π a y ++ [r.1]) :
    ∀ r' ∈ w.rs, ∀ y' , ((r'.2.1 = x ∧ r'.2.2 = y') ∨ (r'.2.1 = y' ∧ r'.2.2 = x)) → π a x = π a y' ++ [r'.1] → y' = y := by
  intro r' hr' y' hxy' h'
  have e : r.1 = r'.1 := by
    have := h.symm.trans h'
    exact (List.append_inj_right' this rfl |> List.cons.inj).1
  have er := road_one ok hr hr' e
  subst er
  have hne := (ok.rok r hr).2.2.2
  rcases hxy with ⟨a1, a2⟩ | ⟨a1, a2⟩ <;> rcases hxy' with ⟨b1, b2⟩ | ⟨b1, b2⟩
  · exact b2.symm.trans a2
  · exact absurd (a1.trans b2.symm) hne
  · exact absurd (b1.trans a2.symm) hne
  · exact b1.symm.trans a1
/-! ### the search -/
abbrev Stp := List (Str × Nat)
def stepB (here : Str) (r : Str × Str × Str) (s : Stp × List Str) : Stp × List Str :=
  if (here = r.2.1 ∨ here = r.2.2) ∧ farEnd r here ∉ s.1.map Prod.fst then (kput s.1 (farEnd r here) ((kget s.1 here).getD 0 + 1), s.2 ++ [farEnd r here]) else s
structure BOk (w : Wb) (π : Str → Str → List Str) (a : Str) (f : Stp) : Prop where
  nd : (f.map Prod.fst).Nodup
  sub : ∀ x ∈ f.map Prod.fst, x ∈ w.ps
  at_ : a ∈ f.map Prod.fst
  val : ∀ x ∈ f.map Prod.fst, kget f x = some (π a x).length
  anc : ∀ x ∈ f.map Prod.fst, x ≠ a → ∃ r ∈ w.rs, ∃ y ∈ f.map Prod.fst, ((r.2.1 = x ∧ r.2.2 = y) ∨ (r.2.1 = y ∧ r.2.2 = x)) ∧ π a x = π a y ++ [r.1]
theorem BOk.len {w : Wb} {π : Str → Str → List Str} {a : Str} {f : Stp} (ok : WOk w) (h : BOk w π a f) : f.length ≤ 10 := by
  have := nodup_sub_len h.nd h.sub
  rw [List.length_map] at this
  have := ok.pm
  omega
theorem far_cases {r : Str × Str × Str} {here : Str} (h : here = r.2.1 ∨ here = r.2.2) (hne : r.2.1 ≠ r.2.2) : (r.2.1 = here ∧ r.2.2 = farEnd r here) ∨ (r.2.1 = farEnd r here ∧ r.2.2 = here) := by
  unfold farEnd
  rcases h with e | e
  · rw [if_pos e.symm]; exact .inl ⟨e.symm, rfl⟩
  · rw [if_neg (fun z => hne (z.trans e))]; exact .inr ⟨rfl, e.symm⟩
theorem stepB_ok {w : Wb} {π : Str → Str → List Str} (ok : WOk w) (t : TW w π) {a here : Str} (ha : a ∈ w.ps) {r : Str × Str × Str} (hr : r ∈ w.rs) {s : Stp × List Str} (h : BOk w π a s.1) (hh : here ∈ s.1.map Prod.fst) : BOk w π a (stepB here r s).1 := by
  unfold stepB
  split
  · rename_i hc
    obtain ⟨hc1, hc2⟩ := hc
    have hne := (ok.rok r hr).2.2.2
    have hfc := far_cases hc1 hne
    have hfp : farEnd r here ∈ w.ps := by
      rcases hfc with ⟨_, e⟩ | ⟨e, _⟩
      · rw [← e]; exact (ok.rok r hr).2.2.1
      · rw [← e]; exact (ok.rok r hr).2.1
    generalize farEnd r here = x at hc2 hfc hfp ⊢
    -- the way to x goes through here
    have hway : π a x = π a here ++ [r.1] := by
      have h2 : π a x = π a here ++ [r.1] ∨ π a here = π a x ++ [r.1] := by
        have he := t.edge r hr a ha
        rcases hfc with ⟨e1, e2⟩ | ⟨e1, e2⟩
        · rw [e1, e2] at he; exact he
        · rw [e1, e2] at he; exact he.symm
      rcases h2 with z | z
      · exact z
      · exfalso
        have hna : here ≠ a := fun e => by
          rw [e, t.self a ha] at z
          exact absurd z.symm (by simp)
        obtain ⟨r', hr', y, hy, hxy, hw⟩ := h.anc here hh hna
        have := t.last_one ok ha hr (h.sub here hh) hfc z r' hr' y hxy hw
        exact hc2 (by rw [← this]; exact hy)
    have hxa : x ≠ a := fun e => hc2 (by rw [e]; exact h.at_)
    rw [kput_new hc2]
    show BOk w π a (s.1 ++ [(x, _)])
    refine ⟨?_, fun y hy => ?_, ?_, fun y hy => ?_, fun y hy hya => ?_⟩
    · rw [List.map_append]
      exact List.nodup_append.mpr ⟨h.nd, by simp, fun u hu v hv z => by
        have hv' : v = x := List.mem_singleton.mp hv
        rw [z, hv'] at hu
        exact hc2 hu⟩
    · rw [List.map_append] at hy
      rcases List.mem_append.mp hy with z | z
      · exact h.sub y z
      · have : y = x := List.mem_singleton.mp z
        rw [this]; exact hfp
    · rw [List.map_append]; exact List.mem_append_left _ h.at_
    · rw [kget_app hc2]
      by_cases e : y = x
      · rw [if_pos e, e, hway, h.val here hh]
        simp
      · rw [if_neg e]
        rw [List.map_append] at hy
        rcases List.mem_append.mp hy with z | z
        · exact h.val y z
        · exact absurd (List.mem_singleton.mp z) e
    · rw [List.map_append] at hy ⊢
      by_cases e : y = x
      · refine ⟨r, hr, here, List.mem_append_left _ hh, ?_, by rw [e]; exact hway⟩
        rw [e]
        exact hfc.symm
      · rcases List.mem_append.mp hy with z | z
        · obtain ⟨r', hr', y', hy', h1, h2⟩ := h.anc y z hya
          exact ⟨r', hr', y', List.mem_append_left _ hy', h1, h2⟩
        · exact absurd (List.mem_singleton.mp z) e
  · exact h
theorem stepB_app (here : Str) (r : Str × Str × Str) (s : Stp × List Str) : (∃ t, (stepB here r s).1 = s.1 ++ t ∧ (stepB here r s).2 = s.2 ++ t.map Prod.fst) := by
  unfold stepB
  split
  · rename_i hc
    exact ⟨[(_, _)], kput_new hc.2, rfl⟩
  · exact ⟨[], by simp, by simp⟩
/-- each place that is done has its neighbours found -/
def BDone (w : Wb) (s : Stp × List Str) (P : Str → Prop) : Prop := ∀ x ∈ s.1.map Prod.fst, x ∉ s.2 → P x → ∀ r ∈ w.rs, (x = r.2.1 ∨ x = r.2.2) → r.2.1 ∈ s.1.map Prod.fst ∧ r.2.2 ∈ s.1.map Prod.fst
theorem stepB_done {w : Wb} {here : Str} {r : Str × Str × Str} {s : Stp × List Str} {P : Str → Prop} (h : BDone w s P) : BDone w (stepB here r s) P := by
  obtain ⟨t, e1, e2⟩ := stepB_app here r s
  intro x hx hn hP r' hr' hi
  rw [e1, List.map_append] at hx ⊢
  rw [e2] at hn
  rcases List.mem_append.mp hx with z | z
  · have := h x z (fun q => hn (List.mem_append_left _ q)) hP r' hr' hi
    exact ⟨List.mem_append_left _ this.1, List.mem_append_left _ this.2⟩
  · exact absurd (List.mem_append_right _ z) hn
theorem stepB_here {w : Wb} (ok : WOk w) {here : Str} {r : Str × Str × Str} (hr : r ∈ w.rs) {s : Stp × List Str} (hh : here ∈ s.1.map Prod.fst) (hi : here = r.2.1 ∨ here = r.2.2) : r.2.1 ∈ (stepB here r s).1.map Prod.fst ∧ r.2.2 ∈ (stepB here r s).1.map Prod.fst := by
  have hfc := far_cases hi (ok.rok r hr).2.2.2
  obtain ⟨t, e1, _⟩ := stepB_app here r s
  have h1 : here ∈ (stepB here r s).1.map Prod.fst := by rw [e1, List.map_append]; exact List.mem_append_left _ hh
  have h2 : farEnd r here ∈ (stepB here r s).1.map Prod.fst := by
    by_cases hc : farEnd r here ∈ s.1.map Prod.fst
    · rw [e1, List.map_append]; exact List.mem_append_left _ hc
    · unfold stepB
      rw [if_pos ⟨hi, hc⟩]
      show _ ∈ (kput s.1 _ _).map Prod.fst
      rw [kput_new hc, List.map_append]
      exact List.mem_append_right _ (List.mem_singleton.mpr rfl)
  rcases hfc with ⟨a1, a2⟩ | ⟨a1, a2⟩
  · rw [a1, a2]; exact ⟨h1, h2⟩
  · rw [a1, a2]; exact ⟨h2, h1⟩
def goB (here : Str) (rs : List (Str × Str × Str)) (s : Stp × List Str) : Stp × List Str := rs.foldl (fun s r => stepB here r s) s
theorem goB_snoc (here : Str) (rs : List (Str × Str × Str)) (r : Str × Str × Str) (s : Stp × List Str) : goB here (rs ++ [r]) s = stepB here r (goB here rs s) := by simp [goB, List.foldl_append]
theorem goB_app (here : Str) : ∀ (rs : List (Str × Str × Str)) (s : Stp × List Str), ∃ t, (goB here rs s).1 = s.1 ++ t ∧ (goB here rs s).2 = s.2 ++ t.map Prod.fst
  | [], s => ⟨[], by simp [goB], by simp [goB]⟩
  | r :: rs, s => by
    obtain ⟨t, e1, e2⟩ := stepB_app here r s
    obtain ⟨t', e3, e4⟩ := goB_app here rs (stepB here r s)
    refine ⟨t ++ t', ?_, ?_⟩
    · show (goB here rs (stepB here r s)).1 = _
      rw [e3, e1, List.append_assoc]
    · show (goB here rs (stepB here r s)).2 = _
      rw [e4, e2, List.map_append, List.append_assoc]
theorem goB_ok {w : Wb} {π : Str → Str → List Str} (ok : WOk w) (t : TW w π) {a here : Str} (ha : a ∈ w.ps) : ∀ {rs : List (Str × Str × Str)} {s : Stp × List Str}, (∀ r ∈ rs, r ∈ w.rs) → BOk w π a s.1 → here ∈ s.1.map Prod.fst → BOk w π a (goB here rs s).1
  | [], s, _, h, _ => h
  | r :: rs, s, hrs, h, hh => by
    have h1 := stepB_ok ok t ha (hrs r List.mem_cons_self) h hh
    obtain ⟨u, e1, _⟩ := stepB_app here r s
    exact goB_ok ok t ha (rs := rs) (s := stepB here r s) (fun x hx => hrs x (List.mem_cons_of_mem _ hx)) h1 (by rw [e1, List.map_append]; exact List.mem_append_left _ hh)
theorem goB_done {w : Wb} {here : Str} {P : Str → Prop} : ∀ {rs : List (Str × Str × Str)} {s : Stp × List Str}, BDone w s P → BDone w (goB here rs s) P
  | [], s, h => h
  | r :: rs, s, h => goB_done (rs := rs) (stepB_done h)
theorem goB_here {w : Wb} (ok : WOk w) {here : Str} : ∀ {rs : List (Str × Str × Str)} {s : Stp × List Str}, (∀ r ∈ rs, r ∈ w.rs) → here ∈ s.1.map Prod.fst → ∀ r ∈ rs, (here = r.2.1 ∨ here = r.2.2) → r.2.1 ∈ (goB here rs s).1.map Prod.fst ∧ r.2.2 ∈ (goB here rs s).1.map Prod.fst
  | r :: rs, s, hrs, hh, r', hr', hi => by
    obtain ⟨u, e1, _⟩ := stepB_app here r s
    have hh' : here ∈ (stepB here r s).1.map Prod.fst := by rw [e1, List.map_append]; exact List.mem_append_left _ hh
    rcases List.mem_cons.mp hr' with e | e
    · subst e
      have h1 := stepB_here ok (hrs r' List.mem_cons_self) hh hi
      obtain ⟨v, e3, _⟩ := goB_app here rs (stepB here r' s)
      show _ ∈ (goB here rs (stepB here r' s)).1.map Prod.fst ∧ _ ∈ (goB here rs (stepB here r' s)).1.map Prod.fst
      rw [e3, List.map_append]
      exact ⟨List.mem_append_left _ h1.1, List.mem_append_left _ h1.2⟩
    · exact goB_here ok (fun x hx => hrs x (List.mem_cons_of_mem _ hx)) hh' r' e hi
/-- a place popped and its roads walked -/
theorem pop_done {w : Wb} (ok : WOk w) {here : Str} {l : List Str} {f : Stp} (hh : here ∈ f.map Prod.fst) (h : BDone w (f, here :: l) (fun _ => True)) : BDone w (goB here w.rs (f, l)) (fun _ => True) := by
  have h1 : BDone w (goB here w.rs (f, l)) (fun x => x ≠ here) := goB_done (fun x hx hn hP r hr hi => h x hx (fun q => by
    rcases List.mem_cons.mp q with z | z
    · exact hP z
    · exact hn z) trivial r hr hi)
  intro x hx hn _ r hr hi
  by_cases e : x = here
  · exact goB_here ok (fun r h => h) hh r hr (by rw [← e]; exact hi)
  · exact h1 x hx hn e r hr hi
theorem bok_done {w : Wb} {π : Str → Str → List Str} (t : TW w π) {a : Str} {f : Stp} (h : BOk w π a f) (hd : BDone w (f, []) (fun _ => True)) : ∀ x ∈ w.ps, x ∈ f.map Prod.fst :=
  t.all (h.sub a h.at_) h.at_ fun r hr => ⟨fun q => (hd _ q (by simp) trivial r hr (.inl rfl)).2, fun q => (hd _ q (by simp) trivial r hr (.inr rfl)).1⟩
theorem nameOk_str {z : Str} (h : NameOk z) : (PyData.canLay0 (.str z)) = true := by
  show (z.cps.all (· < 0x110000)) = true
  rw [← Array.all_toList, List.all_eq_true]
  intro c hc
  have h1 := h.all c hc
  have h2 : ∀ c ∈ signs.cps.toList, decide (c < 0x110000) = true := by decide +kernel
  exact h2 c h1
theorem pls_strs : ∀ xs : List Str, pls (xs.map .str) = true
  | [] => rfl
  | x :: r => pls_strs r
theorem shp_strs : ∀ {xs : List Str}, (∀ x ∈ xs, NameOk x) → SeqAt.shaped (.list (pys (xs.map .str))) = true := by
  intro xs h
  have h1 : PyData.canLayAll0 (pys (xs.map D.str)) = true ∧ PyData.depthAll (pys (xs.map D.str)) = 0 := by
    induction xs with
    | nil => exact ⟨rfl, by simp [pys, PyData.depthAll]⟩
    | cons x r ih =>
      obtain ⟨a, b⟩ := ih fun y hy => h y (List.mem_cons_of_mem _ hy)
      refine ⟨?_, ?_⟩
      · show (PyData.canLay0 (.str x) && PyData.canLayAll0 (pys (r.map D.str))) = true
        rw [a, nameOk_str (h x List.mem_cons_self)]
        rfl
      · show PyData.depthAll (.str x :: pys (r.map D.str)) = 0
        rw [PyData.depthAll, b]
        simp [PyData.depth]
  unfold SeqAt.shaped
  rw [Bool.and_eq_true]
  refine ⟨h1.1, ?_⟩
  rw [decide_eq_true_eq]
  simp [PyData.depth, h1.2]
theorem eqv_nil : ∀ xs : List Str, PyData.eqv (.list (pys (xs.map .str))) (.list (pys [])) = decide (xs = [])
  | [] => rfl
  | x :: r => rfl
/-! ### steps_from -/
def intsD (f : Stp) : List (Key × D) := f.map fun x => (.inr x.1, .int (x.2 : Int))
theorem intsD_get {f : Stp} {x : Str} : kget (intsD f) (.inr x) = (kget f x).map fun n : Nat => D.int (n : Int) := kget_map (fun x : Str => (Sum.inr x : Key)) inr_inj (fun n : Nat => D.int (n : Int)) x f
theorem intsD_put {f : Stp} {x : Str} {n : Nat} : kput (intsD f) (.inr x) (.int (n : Int)) = intsD (kput f x n) := kput_map (fun x : Str => (Sum.inr x : Key)) inr_inj (fun n : Nat => D.int (n : Int)) x n f
theorem intsD_has {f : Stp} {x : Str} : (kget (intsD f) (.inr x)).isSome = decide (x ∈ f.map Prod.fst) := by
  rw [intsD_get]
  have := khas_iff (k := x) (ds := f)
  unfold khas at this
  rw [Option.isSome_map]
  by_cases h : x ∈ f.map Prod.fst
  · rw [this.mpr h, decide_eq_true h]
  · rw [decide_eq_false h]
    cases e : (kget f x).isSome
    · rfl
    · exact absurd (this.mp e) h
theorem at2a {μ : List M} {a b : M} : (μ ++ [a] ++ [b])[μ.length]? = some a := by simp
theorem at2b {μ : List M} {a b : M} : (μ ++ [a] ++ [b])[(μ ++ [a]).length]? = some b := by simp
theorem set2a {μ : List M} {a b a' : M} : (μ ++ [a] ++ [b]).set μ.length a' = μ ++ [a'] ++ [b] := by
  rw [List.append_assoc, List.set_append_right _ _ (Nat.le_refl _)]
  simp
theorem len2 {μ : List M} {a b : M} : (μ ++ [a]).length = (μ ++ [b]).length := by simp
abbrev s_steps_from : Stmt := top 21
theorem sc_steps_from : FnScope ["web", "place", "found", "left", "here", "road"] ["web", "place"] (defScope s_steps_from) := ⟨rfl, rfl, rfl, by decide +kernel, rfl, by decide +kernel, by decide +kernel⟩
def S_steps_from : SpecD := fun ws μ R => ∃ w π a, ws = [.val (webD w), .val (.str a)] ∧ WOk w ∧ TW w π ∧ a ∈ w.ps ∧ ∀ f : Stp, (∀ x ∈ w.ps, kget f x = some (π a x).length) → R (.val (.dK (intsD f))) μ
theorem ok_steps_from {m : Mo} (F : Stands m "steps_from" s_steps_from) (C1 : Callee m "other_end" 1 S_other_end) : Callee m "steps_from" 2 S_steps_from := by
  refine callee_of F sc_steps_from (ps := ["web", "place"]) (fun ws μ R h => by obtain ⟨_, _, _, rfl, _⟩ := h; rfl) (fun _ _ _ _ _ _ us hl => match us, hl with | [_, _], _ => rfl) fun X hm G fx hr ws μ R h => ?_
  subst hm
  obtain ⟨w, π, a, rfl, ok, t, ha, h⟩ := h
  have hrm := ok.rm
  let st : Option W → Option W → DS := fun x y => [some (.val (webD w)), some (.val (.str a)), some (.own μ.length), some (.own (μ.length + 1)), x, y]
  let mm : Stp × List Str → List M := fun s => μ ++ [.mK (intsD s.1)] ++ [.ml (s.2.map .str)]
  have hl1 : ∀ f : Stp, (μ ++ [M.mK (intsD f)]).length = μ.length + 1 := fun f => by simp
  have atA : ∀ s, (mm s)[μ.length]? = some (.mK (intsD s.1)) := fun s => at2a
  have atB : ∀ s, (mm s)[μ.length + 1]? = some (.ml (s.2.map .str)) := fun s => by rw [← hl1 s.1]; exact at2b
  have setA : ∀ s f', (mm s).set μ.length (.mK (intsD f')) = mm (f', s.2) := fun s f' => set2a
  have setB : ∀ s l', (mm s).set (μ.length + 1) (.ml (l'.map .str)) = mm (s.1, l') := fun s l' => by
    show (μ ++ [M.mK (intsD s.1)] ++ [M.ml (s.2.map .str)]).set (μ.length + 1) _ = _
    rw [← hl1 s.1, set_last]
  refine s_cons <| s_set G 2 <| x_disp1 <| x_v G 1 <| x_int ⟨.inr a, .int 0, rfl, rfl, ?_⟩
  refine s_cons <| s_set G 3 <| x_lstO <| a_cons <| x_v G 1 <| a_nil ⟨[.str a], rfl, (by show 1 ≤ 100000; decide), ?_⟩
  have b0 : BOk w π a [(a, 0)] := by
    have e : ∀ x, x ∈ ([(a, 0)] : Stp).map Prod.fst → x = a := fun x hx => by simpa using hx
    refine ⟨by simp, fun x hx => by rw [e x hx]; exact ha, by simp, fun x hx => ?_, fun x hx hn => absurd (e x hx) hn⟩
    rw [e x hx, t.self a ha]
    simp [kget]
  have d0 : BDone w ([(a, 0)], [a]) (fun _ => True) := fun x hx hn _ => by
    have e : x = a := by simpa using hx
    rw [e] at hn
    simp at hn
  have e0 : st none none = ((startD ["web", "place", "found", "left", "here", "road"] [.val (webD w), .val (.str a)]).set 2 (some (.own μ.length))).set 3 (some (.own (μ ++ [M.mK (intsD [(a, 0)])]).length)) := by rw [hl1]; rfl
  refine s_cons <| s_while G (fun m δ μ' => ∃ (s : Stp × List Str) (x y : Option W), δ = st x y ∧ μ' = mm s ∧ BOk w π a s.1 ∧ BDone w s (fun _ => True) ∧ (∀ z ∈ s.2, z ∈ s.1.map Prod.fst) ∧ (∀ z ∈ s.2, z ∈ w.ps) ∧ s.2.length ≤ s.1.length ∧ m = 2 * (10 - s.1.length) + s.2.length) (2 * (10 - 1) + 1) ⟨([(a, 0)], [a]), none, none, e0.symm, rfl, b0, d0, by simp, fun z hz => by rw [List.mem_singleton.mp hz]; exact ha, Nat.le_refl _, rfl⟩ ?_
  rintro m δ' μ' ⟨⟨f, l⟩, x, y, rfl, rfl, hb, hd, hl, hlp, hlf, rfl⟩
  refine t_neL hr <| x_v G 3 <| x_lst <| a_nil ⟨[], rfl, Nat.zero_le _, l.map .str, [], .own (atB _), .lst, pls_strs l, rfl, shp_strs fun z hz => ok.pok z (hlp z hz), shp_strs (xs := []) (fun _ h => nomatch h), fun kt => ?_, fun kf => ?_⟩
  · cases l with
    | nil => exact nomatch (show false = true from kt)
    | cons here l =>
      have hhf := hl here List.mem_cons_self
      have hfl0 := hb.len ok
      have hlf : l.length + 1 ≤ f.length := hlf
      have hfl0 : f.length ≤ 10 := hfl0
      refine s_cons <| s_set G 4 <| x_popAt <| x_v G 3 ⟨μ.length + 1, rfl, ⟨_, atB _⟩, x_int ⟨_, 0, .str here, atB _, rfl, Int.le_refl _, ?_, rfl, ?_⟩⟩
      · rw [List.length_map]; show l.length + 1 ≤ 40000; omega
      show WSs X _ _ ((mm (f, here :: l)).set (μ.length + 1) (.ml (l.map D.str))) _
      rw [setB]
      refine s_one <| s_for G <| i_tup <| x_web1 (w := w) <| x_v G 0 ⟨rfl, rsD w.rs, w.rs.map roadD, rfl, tupT, fun i δ μ' => ∃ y, δ = st (some (.val (.str here))) y ∧ μ' = mm (goB here (w.rs.take i) (f, l)), ⟨y, rfl, rfl⟩, fun _ _ _ _ _ => trivial, ?_, ?_⟩
      · rintro i d δ' μ' hd' ⟨y, rfl, rfl⟩
        obtain ⟨r, hrr, rfl⟩ := maps_get hd'
        have hr' := List.mem_of_getElem? hrr
        have hgo : goB here (w.rs.take (i + 1)) (f, l) = stepB here r (goB here (w.rs.take i) (f, l)) := by rw [getElem?_take_succ hrr, goB_snoc]
        have hbk := goB_ok ok t ha (rs := w.rs.take i) (s := (f, l)) (fun z hz => List.mem_of_mem_take hz) hb hhf
        have hhk : here ∈ (goB here (w.rs.take i) (f, l)).1.map Prod.fst := by
          obtain ⟨u, e1, _⟩ := goB_app here (w.rs.take i) (f, l)
          rw [e1, List.map_append]
          exact List.mem_append_left _ hhf
        have hll : (goB here (w.rs.take i) (f, l)).2.length ≤ 40000 := by
          obtain ⟨u, e1, e2⟩ := goB_app here (w.rs.take i) (f, l)
          have q1 := congrArg List.length e1
          have q2 := congrArg List.length e2
          rw [List.length_append] at q1 q2
          rw [List.length_map] at q2
          have q3 := hbk.len ok
          have q4 : (f, l).1.length = f.length := rfl
          have q5 : (f, l).2.length = l.length := rfl
          omega
        obtain ⟨s1, hs1⟩ : ∃ s1, s1 = goB here (w.rs.take i) (f, l) := ⟨_, rfl⟩
        rw [← hs1] at hbk hhk hll hgo ⊢
        have hfl := hbk.len ok
        have hil : (intsD s1.1).length = s1.1.length := List.length_map _
        refine g_name G 5 ?_
        refine s_one <| s_ifB (decide (here ∈ [r.2.1, r.2.2]) && !decide (farEnd r here ∈ s1.1.map Prod.fst)) (t_and <| t_inS <| x_v G 4 <| x_slT <| x_v G 5 <| o_some <| x_int ⟨1, rfl, o_none ⟨_, [.str r.1, .str r.2.1, .str r.2.2], rfl, tupT, (by show ¬ (HT.sIx 3 0 (some 1) = 0 ∧ HT.sIx 3 3 none = 3); decide), here, [r.2.1, r.2.2], rfl, .tup tupT, fun k1 => ?_, fun k1 => ⟨by rw [k1]; rfl, rfl⟩⟩⟩) (fun hc => ?_) (fun hc => ?_)
        · refine w_and1 <| t_dnotin hr <| x_call G C1 hr (by decide) <| a_cons <| x_v G 5 <| a_cons <| x_v G 4 <| a_nil ⟨r, here, rfl, x_v G 2 ⟨_, .k (k := .inr (farEnd r here)) (.own (atA s1)), ?_, rfl⟩⟩
          rw [k1, intsD_has]
          rfl
        · rw [Bool.and_eq_true, decide_eq_true_eq, Bool.not_eq_true', decide_eq_false_iff_not] at hc
          have hv := hbk.val here hhk
          refine s_cons <| s_dput hr <| x_add <| x_dget hr <| x_v G 2 <| x_v G 4 ⟨.int (π a here).length, ?_, x_int <| ii <| x_v G 2 <| x_call G C1 hr (by decide) <| a_cons <| x_v G 5 <| a_cons <| x_v G 4 <| a_nil ⟨r, here, rfl, μ.length, _, .inr (farEnd r here), .int ((π a here).length + 1 : Nat), rfl, atA s1, rfl, rfl, by omega, ?_⟩⟩
          · have := LookW.k (μ := mm s1) (w := .own μ.length) (k := .inr here) (.own (atA s1))
            rw [intsD_get, hv] at this
            exact this
          · show WSs X _ _ _ _
            rw [intsD_put, setA]
            refine s_one <| s_expr <| x_append <| x_v G 3 ⟨μ.length + 1, rfl, ⟨_, atB _⟩, x_call G C1 hr (by decide) <| a_cons <| x_v G 5 <| a_cons <| x_v G 4 <| a_nil ⟨r, here, rfl, _, .str (farEnd r here), atB _, rfl, by rw [List.length_map]; exact hll, ⟨_, rfl, ?_⟩⟩⟩
            rw [show (s1.2.map D.str ++ [D.str (farEnd r here)]) = (s1.2 ++ [farEnd r here]).map D.str by simp, setB, hgo]
            unfold stepB
            rw [if_pos ⟨by simpa using hc.1, hc.2⟩, hv]
            rfl
        · refine s_nil ⟨_, rfl, ?_⟩
          rw [hgo]
          unfold stepB
          rw [if_neg]
          rintro ⟨h1, h2⟩
          rw [decide_eq_true (by simpa using h1), decide_eq_false h2] at hc
          cases hc
      · rintro δ' μ' ⟨y, rfl, rfl⟩
        rw [List.length_map, List.take_length]
        obtain ⟨u, e1, e2⟩ := goB_app here w.rs (f, l)
        have hbk := goB_ok ok t ha (rs := w.rs) (s := (f, l)) (fun z hz => hz) hb hhf
        have hfl := hbk.len ok
        have q1 := congrArg List.length e1
        have q2 := congrArg List.length e2
        rw [List.length_append] at q1 q2
        rw [List.length_map] at q2
        have hsub : ∀ z ∈ (goB here w.rs (f, l)).2, z ∈ (goB here w.rs (f, l)).1.map Prod.fst := fun z hz => by
          rw [e2] at hz
          rw [e1, List.map_append]
          rcases List.mem_append.mp hz with q | q
          · exact List.mem_append_left _ (hl z (List.mem_cons_of_mem _ q))
          · exact List.mem_append_right _ q
        refine ⟨2 * (10 - (goB here w.rs (f, l)).1.length) + (goB here w.rs (f, l)).2.length, ?_, goB here w.rs (f, l), _, y, rfl, rfl, hbk, pop_done ok hhf hd, hsub, fun z hz => hbk.sub z (hsub z hz), ?_, rfl⟩
        rotate_left
        · have q4 : (f, l).1.length = f.length := rfl
          have q5 : (f, l).2.length = l.length := rfl
          omega
        show _ < 2 * (10 - f.length) + (here :: l).length
        rw [List.length_cons]
        have : (f, l).1.length = f.length := rfl
        have : (f, l).2.length = l.length := rfl
        omega
  · cases l with
    | cons here l => exact nomatch (show true = false from kf)
    | nil =>
      refine s_one <| s_ret <| x_v G 2 ?_
      show (if μ.length < μ.length then _ else _)
      rw [if_neg (Nat.lt_irrefl _)]
      refine ⟨_, atA _, .inl ?_⟩
      rw [show (mm (f, [])).take μ.length = μ by show (μ ++ _ ++ _).take μ.length = μ; rw [List.append_assoc, List.take_left' rfl]]
      exact h f fun x hx => hb.val x (bok_done t hb hd x hx)
end DL
set_option Elab.async false
set_option linter.all false
set_option maxRecDepth 100000
set_option maxHeartbeats 2000000
set_option pp.maxSteps 250
namespace DL
open PySem PySem.Spec PyProof.Rows L2
theorem at_nat' {xs : List D} {j : Nat} {d : D} (h : xs[j]? = some d) : atI xs (j : Int) = some d := by
  have hl := (List.getElem?_eq_some_iff.mp h).1
  unfold atI ixN
  rw [if_pos (by omega), if_pos (by omega)]
  simpa using h
abbrev s_distance_rows : Stmt := top 22
theorem sc_distance_rows : FnScope ["web", "found", "place", "steps", "other"] ["web"] (defScope s_distance_rows) := ⟨rfl, rfl, rfl, by decide +kernel, rfl, by decide +kernel, by decide +kernel⟩
def dRow (w : Wb) (π : Str → Str → List Str) (p : Str) : D := .lst (w.ps.map fun q => .int ((π p q).length : Int))
def S_distance_rows : SpecD := fun ws μ R => ∃ w π, ws = [.val (webD w)] ∧ WOk w ∧ TW w π ∧ R (.val (.lst (w.ps.map (dRow w π)))) μ
theorem ok_distance_rows {m : Mo} (F : Stands m "distance_rows" s_distance_rows) (C1 : Callee m "steps_from" 2 S_steps_from) : Callee m "distance_rows" 3 S_distance_rows := by
  refine callee_of F sc_distance_rows (ps := ["web"]) (fun ws μ R h => by obtain ⟨_, _, rfl, _⟩ := h; rfl) (fun _ _ _ _ _ _ us hl => match us, hl with | [_], _ => rfl) fun X hm G fx hr ws μ R h => ?_
  subst hm
  obtain ⟨w, π, rfl, ok, t, h⟩ := h
  have hpm := ok.pm
  let st : Option W → Option W → DS := fun a b => [some (.val (webD w)), some (.own μ.length), a, b, none]
  refine s_cons <| s_set G 1 <| x_lstO <| a_nil ⟨[], rfl, Nat.zero_le _, ?_⟩
  refine s_cons <| s_for G <| i_tup <| x_web0 (w := w) <| x_v G 0 ⟨rfl, psD w.ps, w.ps.map .str, rfl, tuxT, fun i δ μ' => ∃ a b, δ = st a b ∧ μ' = μ ++ [.ml ((w.ps.take i).map (dRow w π))], ⟨none, none, rfl, rfl⟩, fun _ _ _ _ _ => trivial, ?_, ?_⟩
  · rintro i d δ' μ' hd ⟨a, b, rfl, rfl⟩
    obtain ⟨p, hp, rfl⟩ := maps_get hd
    have hpp := List.mem_of_getElem? hp
    refine g_name G 2 ?_
    refine s_cons <| s_set G 3 <| x_call G C1 hr (by decide) <| a_cons <| x_v G 0 <| a_cons <| x_v G 2 <| a_nil ⟨w, π, p, rfl, ok, t, hpp, fun f hf => ?_⟩
    refine s_one <| s_expr <| x_append <| x_v G 1 ⟨μ.length, rfl, ⟨_, at_last⟩, x_lc (o := false) G [("other", 4)] <| lc_map (fun d => match d with | .str q => .int ((π p q).length : Int) | _ => .non) <| i_tup <| x_web0 (w := w) <| x_v G 0 ⟨rfl, psD w.ps, w.ps.map .str, rfl, tuxT, by rw [List.length_map]; omega, trivial, fun n d hn b => ?_, ?_⟩⟩
    · obtain ⟨q, hq, rfl⟩ := maps_get hn
      refine c_name (G.bk rfl) 4 fun b => x_get1 hr <| x_v (G.bk rfl) 3 ⟨.k .dat, x_v (G.bk rfl) 4 ⟨_, .k (k := .inr q) .dat, ?_, rfl⟩⟩
      rw [intsD_get, hf q (List.mem_of_getElem? hq)]
      rfl
    · refine ⟨_, _, at_last, rfl, ?_, ⟨_, _, rfl, ?_⟩⟩
      · rw [List.length_map, List.length_take]; omega
      · rw [set_last, getElem?_take_succ hp, List.map_append, List.map_map]
        rfl
  · rintro δ' μ' ⟨a, b, rfl, rfl⟩
    rw [List.length_map, List.take_length]
    refine s_one <| s_ret <| x_v G 1 ?_
    show (if μ.length < μ.length then _ else _)
    rw [if_neg (Nat.lt_irrefl _), List.take_left' rfl]
    exact ⟨_, at_last, .inl h⟩
theorem ix_of {xs : List Str} {p : Str} (h : p ∈ xs) : ∃ j : Nat, xs[j]? = some p ∧ ∀ i, i < j → xs[i]? ≠ some p := by
  have key : ∀ n (l : List Str), l.length ≤ n → p ∈ l → ∃ j : Nat, l[j]? = some p ∧ ∀ i, i < j → l[i]? ≠ some p := by
    intro n
    induction n with
    | zero => intro l hl hp; have := List.length_pos_of_mem hp; omega
    | succ n ih =>
      intro l hl hp
      cases l with
      | nil => cases hp
      | cons x r =>
        by_cases e : x = p
        · exact ⟨0, by simp [e], fun i hi => absurd hi (by omega)⟩
        · rw [List.length_cons] at hl
          obtain ⟨j, h1, h2⟩ := ih r (by omega) ((List.mem_cons.mp hp).resolve_left (fun z => e z.symm))
          refine ⟨j + 1, by simpa using h1, fun i hi => ?_⟩
          cases i with
          | zero => simpa using e
          | succ i => simpa using h2 i (by omega)
  exact key _ xs (Nat.le_refl _) h
abbrev s_distance : Stmt := top 68
theorem sc_distance : FnScope ["web", "place", "other"] ["web", "place", "other"] (defScope s_distance) := ⟨rfl, rfl, rfl, by decide +kernel, rfl, by decide +kernel, by decide +kernel⟩
def S_distance : SpecD := fun ws μ R => ∃ w π p q, ws = [.val (webD w), .val (.str p), .val (.str q)] ∧ WOk w ∧ TW w π ∧ p ∈ w.ps ∧ q ∈ w.ps ∧ R (.val (.int ((π p q).length : Int))) μ
theorem ok_distance {m : Mo} (F : Stands m "distance" s_distance) (C1 : Callee m "need_web" 4 S_need_web) (C2 : Callee m "need_place" 2 S_need_place) (C3 : Callee m "distance_rows" 3 S_distance_rows) (C4 : Callee m "place_number" 1 S_place_number) : Callee m "distance" 5 S_distance := by
  refine callee_of F sc_distance (ps := ["web", "place", "other"]) (fun ws μ R h => by obtain ⟨_, _, _, _, rfl, _⟩ := h; rfl) (fun _ _ _ _ _ _ us hl => match us, hl with | [_, _, _], _ => rfl) fun X hm G fx hr ws μ R h => ?_
  subst hm
  obtain ⟨w, π, p, q, rfl, ok, t, hp, hq, h⟩ := h
  obtain ⟨j, hj, hj2⟩ := ix_of hp
  obtain ⟨l, hl, hl2⟩ := ix_of hq
  refine s_cons <| s_expr <| x_call G C1 hr (by decide) <| a_cons <| x_v G 0 <| a_nil ⟨w, rfl, ok, ?_⟩
  refine s_cons <| s_expr <| x_call G C2 hr (by decide) <| a_cons <| x_v G 0 <| a_cons <| x_v G 1 <| a_nil ⟨w, p, rfl, hp, ?_⟩
  refine s_cons <| s_expr <| x_call G C2 hr (by decide) <| a_cons <| x_v G 0 <| a_cons <| x_v G 2 <| a_nil ⟨w, q, rfl, hq, ?_⟩
  exact s_one <| s_ret <| x_at <| x_at <| x_call G C3 hr (by decide) <| a_cons <| x_v G 0 <| a_nil ⟨w, π, rfl, ok, t, x_call G C4 hr (by decide) <| a_cons <| x_v G 0 <| a_cons <| x_v G 1 <| a_nil ⟨w, p, j, rfl, hj, hj2, w.ps.map (dRow w π), j, dRow w π p, .lst .lst, rfl, at_nat' (by rw [List.getElem?_map, hj]; rfl), x_call G C4 hr (by decide) <| a_cons <| x_v G 0 <| a_cons <| x_v G 2 <| a_nil ⟨w, q, l, rfl, hl, hl2, w.ps.map (fun q => .int ((π p q).length : Int)), l, .int ((π p q).length : Int), .lst .lst, rfl, at_nat' (by rw [List.getElem?_map, hl]; rfl), ret_val h⟩⟩⟩
end DL
set_option Elab.async false
set_option linter.all false
set_option maxRecDepth 100000
set_option maxHeartbeats 2000000
set_option exponentiation.threshold 2000
set_option pp.maxSteps 250
namespace DL
open PySem PySem.Spec PyProof.Rows L2
/-! ### the feed -/
def cells (a b c : Int) : M := .ml [.int a, .int b, .int c]
/-- the feed at j, with a counter of at most n -/
def FeedAt (μ : List M) (j : Nat) (n : Nat) : Prop := ∃ a b c, μ[j]? = some (cells a b c) ∧ 0 ≤ a ∧ 0 ≤ b ∧ b < 10 ^ 40 ∧ 0 ≤ c ∧ c ≤ n
/-- μ' is μ but for the feed -/
def Fed (μ μ' : List M) (j : Nat) (n : Nat) : Prop := ∃ a b c, μ' = μ.set j (cells a b c) ∧ j < μ.length ∧ 0 ≤ a ∧ 0 ≤ b ∧ b < 10 ^ 40 ∧ 0 ≤ c ∧ c ≤ n
theorem Fed.at_ {μ μ' : List M} {j n : Nat} (h : Fed μ μ' j n) : FeedAt μ' j n := by
  obtain ⟨a, b, c, rfl, hj, h⟩ := h
  exact ⟨a, b, c, List.getElem?_set_self hj, h⟩
theorem Fed.trans {μ μ1 μ2 : List M} {j n m : Nat} (h : Fed μ μ1 j n) (h' : Fed μ1 μ2 j m) : Fed μ μ2 j m := by
  obtain ⟨a, b, c, rfl, hj, _⟩ := h
  obtain ⟨a', b', c', rfl, hj', h⟩ := h'
  exact ⟨a', b', c', by rw [List.set_set], hj, h⟩
theorem Fed.refl {μ : List M} {j n : Nat} (h : FeedAt μ j n) : Fed μ μ j n := by
  obtain ⟨a, b, c, h1, h2⟩ := h
  refine ⟨a, b, c, ?_, (List.getElem?_eq_some_iff.mp h1).1, h2⟩
  rw [List.ext_getElem?_iff]
  intro i
  by_cases e : j = i
  · subst e
    rw [List.getElem?_set_self (List.getElem?_eq_some_iff.mp h1).1, h1]
  · rw [List.getElem?_set_ne e]
theorem Fed.mono {μ μ' : List M} {j n m : Nat} (h : Fed μ μ' j n) (hn : n ≤ m) : Fed μ μ' j m := by
  obtain ⟨a, b, c, e, hj, h1, h2, h3, h4, h5⟩ := h
  exact ⟨a, b, c, e, hj, h1, h2, h3, h4, by omega⟩
theorem FeedAt.mono {μ : List M} {j n m : Nat} (h : FeedAt μ j n) (hn : n ≤ m) : FeedAt μ j m := by
  obtain ⟨a, b, c, h1, h2, h3, h4, h5, h6⟩ := h
  exact ⟨a, b, c, h1, h2, h3, h4, h5, by omega⟩
theorem FeedAt.lt {μ : List M} {j n : Nat} (h : FeedAt μ j n) : j < μ.length := by
  obtain ⟨a, b, c, h1, _⟩ := h
  exact (List.getElem?_eq_some_iff.mp h1).1
theorem FeedAt.app {μ : List M} {j n : Nat} (h : FeedAt μ j n) (ν : List M) : FeedAt (μ ++ ν) j n := by
  obtain ⟨a, b, c, h1, h2⟩ := h
  exact ⟨a, b, c, by rw [List.getElem?_append_left (List.getElem?_eq_some_iff.mp h1).1]; exact h1, h2⟩
theorem Fed.app {μ μ' : List M} {j n : Nat} (hj : j < μ.length) {ν : List M} (h : Fed (μ ++ ν) μ' j n) : ∃ μ1, μ' = μ1 ++ ν ∧ Fed μ μ1 j n := by
  obtain ⟨a, b, c, rfl, _, h1⟩ := h
  exact ⟨μ.set j (cells a b c), by rw [List.set_append_left _ _ hj], a, b, c, rfl, hj, h1⟩
theorem Fed.len {μ μ' : List M} {j n : Nat} (h : Fed μ μ' j n) : μ'.length = μ.length := by
  obtain ⟨a, b, c, rfl, _⟩ := h
  simp
abbrev s_law_draw : Stmt := top 71
theorem sc_law_draw : FnScope ["_law_feed_here", "_law_many", "_law_rest", "_law_got", "_law_stir"] ["_law_feed_here", "_law_many"] (defScope s_law_draw) := ⟨rfl, rfl, rfl, by decide +kernel, rfl, by decide +kernel, by decide +kernel⟩
def S_law_draw : SpecD := fun ws μ R => ∃ (j n : Nat) (many : Int), ws = [.own j, .val (.int many)] ∧ FeedAt μ j n ∧ n < 10 ^ 9 ∧ 1 ≤ many ∧ many < 1000000 ∧ ∀ (r : Nat) μ', (r : Int) < many → Fed μ μ' j (n + 1) → R (.val (.int r)) μ'
theorem ret_own {R : W → List M → Prop} {μ μ' : List M} {j n : Nat} {d : D} (hf : Fed μ μ' j n) (h : R (.val d) μ') : RetR μ.length R (.val d) μ' := by
  show R (.val d) (μ'.take μ.length)
  rw [← hf.len, List.take_length]
  exact h
theorem log_lt {x : Int} {k : Nat} (h0 : 0 ≤ x) (h : x < 2 ^ k) (hk : 1 ≤ k) : x.natAbs.log2 < k := by
  have h1 : ((x.natAbs : Nat) : Int) < ((2 ^ k : Nat) : Int) := by
    rw [Int.natAbs_of_nonneg h0]
    push_cast
    exact h
  have h2 : x.natAbs < 2 ^ k := Int.ofNat_lt.mp h1
  by_cases hz : x.natAbs = 0
  · rw [hz, show Nat.log2 0 = 0 from by decide]; omega
  · exact (Nat.log2_lt hz).mpr h2
theorem ok_law_draw {m : Mo} (T : Tops m) (F : Stands m "_law_draw" s_law_draw) : Callee m "_law_draw" 1 S_law_draw := by
  refine callee_of F sc_law_draw (ps := ["_law_feed_here", "_law_many"]) (fun ws μ R h => by obtain ⟨_, _, _, rfl, _⟩ := h; rfl) (fun _ _ _ _ _ _ us hl => match us, hl with | [_, _], _ => rfl) fun X hm G fx hr ws μ R h => ?_
  subst hm
  obtain ⟨j, n, many, rfl, ⟨a, b, c, hj, h1, h2, h3, h4, h5⟩, hn, hm1, hm2, h⟩ := h
  have hjl := (List.getElem?_eq_some_iff.mp hj).1
  have fd : ∀ a' c' : Int, 0 ≤ a' → 0 ≤ c' → c' ≤ n + 1 → Fed μ (μ.set j (cells a' b c')) j (n + 1) := fun a' c' q1 q2 q3 => ⟨a', b, c', rfl, hjl, q1, h2, h3, q2, by push_cast; omega⟩
  refine s_cons <| s_if <| t_gt <| x_at <| x_v G 0 <| x_int ⟨[.int a, .int b, .int c], 0, .int a, .lst (.own hj), rfl, rfl, x_int <| ii ⟨fun kt => ?_, fun kf => s_nil ?_⟩⟩
  · have kt := of_decide_eq_true kt
    refine s_cons <| s_set G 2 <| x_fdiv <| x_at <| x_v G 0 <| x_int ⟨[.int a, .int b, .int c], 0, .int a, .lst (.own hj), rfl, rfl, x_v G 1 <| ii (i := a) (j := many) ⟨⟨by omega, by omega⟩, ?_⟩⟩
    refine s_cons <| s_set G 3 <| x_sub <| x_at <| x_v G 0 <| x_int ⟨[.int a, .int b, .int c], 0, .int a, .lst (.own hj), rfl, rfl, x_mul <| x_v G 2 <| x_v G 1 <| ii (i := a / many) (j := many) ⟨.inr ⟨by omega, by omega⟩, ii ?_⟩⟩
    have hdm := Int.emod_add_mul_ediv a many
    have e1 : a - a / many * many = a % many := by rw [Int.mul_comm (a / many) many]; omega
    have e2 := Int.emod_nonneg a (show many ≠ 0 by omega)
    have e3 := Int.emod_lt_of_pos a (show 0 < many by omega)
    refine s_cons <| s_asg <| x_v G 2 <| g_sub <| x_v G 0 <| x_int ⟨j, [.int a, .int b, .int c], 0, 0, rfl, rfl, hj, rfl, ?_⟩
    refine s_one <| s_ret <| x_v G 3 ?_
    have hf := fd (a / many) c (Int.ediv_nonneg h1 (by omega)) h4 (by omega)
    refine ret_own hf ?_
    rw [e1, show a % many = ((a % many).toNat : Int) by omega]
    exact h _ _ (by omega) hf
  · refine s_cons <| s_asg <| x_add <| x_at <| x_v G 0 <| x_int ⟨[.int a, .int b, .int c], 2, .int c, .lst (.own hj), rfl, rfl, x_int <| ii <| g_sub <| x_v G 0 <| x_int ⟨j, [.int a, .int b, .int c], 2, 2, rfl, rfl, hj, rfl, ?_⟩⟩
    show WSs X _ _ (μ.set j (cells a b (c + 1))) _
    have hf := fd a (c + 1) h1 (by omega) (by omega)
    have hj' : (μ.set j (cells a b (c + 1)))[j]? = some (.ml [.int a, .int b, .int (c + 1)]) := List.getElem?_set_self hjl
    have big : (10 : Int) ^ 40 < 2 ^ 140 := by decide
    have hc1 : c + 1 ≤ 10 ^ 9 := by omega
    -- the first stir
    refine s_cons <| s_set G 4 <| x_add <| x_at <| x_v G 0 <| x_int ⟨[.int a, .int b, .int (c + 1)], 1, .int b, .lst (.own hj'), rfl, rfl, x_mul <| x_int <| x_at <| x_v G 0 <| x_int ⟨[.int a, .int b, .int (c + 1)], 2, .int (c + 1), .lst (.own hj'), rfl, rfl, ii ⟨.inl ⟨by decide, by decide⟩, ii ?_⟩⟩⟩
    obtain ⟨s1, hs1⟩ : ∃ s1, s1 = b + 6700417 * (c + 1) := ⟨_, rfl⟩
    rw [← hs1]
    have s1a : 0 ≤ s1 := by omega
    have s1b : s1 < 2 ^ 141 := by
      have : (2 : Int) ^ 141 = 2 * 2 ^ 140 := by decide
      have : (10 : Int) ^ 40 + 6700417 * 10 ^ 9 < 2 ^ 140 := by decide
      omega
    have s1l := log_lt s1a s1b (by decide)
    have s1s : 0 ≤ s1 * s1 := Int.mul_nonneg s1a s1a
    have s1t : s1 * s1 < 2 ^ 282 := by
      have : s1 * s1 ≤ (2 ^ 141 - 1) * (2 ^ 141 - 1) := Int.mul_le_mul (by omega) (by omega) s1a (by decide)
      have : ((2 : Int) ^ 141 - 1) * (2 ^ 141 - 1) < 2 ^ 282 := by decide
      omega
    have s1sl := log_lt s1s s1t (by decide)
    refine s_cons <| s_set G 4 <| x_mod <| x_toint G T.int <| x_add <| x_mulW <| x_mulW <| x_v G 4 <| x_v G 4 <| ii (i := s1) (j := s1) ⟨by unfold CMulW; omega, x_v G 4 <| ii (i := s1 * s1) (j := s1) ⟨by unfold CMulW; omega, x_mul <| x_int <| x_at <| x_v G 0 <| x_int ⟨[.int a, .int b, .int (c + 1)], 2, .int (c + 1), .lst (.own hj'), rfl, rfl, ii ⟨.inl ⟨by decide, by decide⟩, ii ⟨_, rfl, x_add <| x_pow <| x_int <| x_int <| ii ⟨⟨by decide, by decide, by decide⟩, x_int <| ii <| ii ⟨by decide, ?_⟩⟩⟩⟩⟩⟩⟩
    obtain ⟨s2, hs2⟩ : ∃ s2, s2 = (s1 * s1 * s1 + 15485863 * (c + 1)) % (10 ^ (43 : Int).toNat + 57) := ⟨_, rfl⟩
    rw [← hs2]
    have s2a : 0 ≤ s2 := by rw [hs2]; exact Int.emod_nonneg _ (by decide)
    have s2b : s2 < 2 ^ 150 := by
      have : s2 < 10 ^ (43 : Int).toNat + 57 := by rw [hs2]; exact Int.emod_lt_of_pos _ (by decide)
      have : (10 : Int) ^ (43 : Int).toNat + 57 < 2 ^ 150 := by decide
      omega
    have s2l := log_lt s2a s2b (by decide)
    refine s_cons <| s_set G 4 <| x_mod <| x_toint G T.int <| x_add <| x_mulW <| x_v G 4 <| x_v G 4 <| ii (i := s2) (j := s2) ⟨by unfold CMulW; omega, x_int <| ii ⟨_, rfl, x_add <| x_pow <| x_int <| x_int <| ii ⟨⟨by decide, by decide, by decide⟩, x_int <| ii <| ii ⟨by decide, ?_⟩⟩⟩⟩
    refine s_one <| s_ret <| x_mod <| x_toint G T.int <| x_fdiv <| x_v G 4 <| x_pow <| x_int <| x_int <| ii ⟨⟨by decide, by decide, by decide⟩, ii ⟨⟨by decide, by decide⟩, _, rfl, x_v G 1 <| ii (j := many) ⟨by omega, ?_⟩⟩⟩
    refine ret_own hf ?_
    have e2 := fun x : Int => Int.emod_nonneg x (show many ≠ 0 by omega)
    have e3 := fun x : Int => Int.emod_lt_of_pos x (show 0 < many by omega)
    generalize hz : ((s2 * s2 + 32452843) % (10 ^ (38 : Int).toNat + 133) / 10 ^ (9 : Int).toNat) = z
    rw [show z % many = ((z % many).toNat : Int) by have := e2 z; omega]
    exact h _ _ (by have := e2 z; have := e3 z; omega) hf
end DL
set_option Elab.async false
set_option linter.all false
set_option maxRecDepth 100000
set_option maxHeartbeats 400000
set_option exponentiation.threshold 2000
set_option pp.maxSteps 250
namespace DL
open PySem PySem.Spec PyProof.Rows L2
theorem atN {xs : List D} {j : Nat} {d : D} (h : xs[j]? = some d) : atI xs (j : Int) = some d := by
  have hl := (List.getElem?_eq_some_iff.mp h).1
  unfold atI ixN
  rw [if_pos (by omega), if_pos (by omega)]
  simpa using h
theorem erase_perm {α : Type} : ∀ {l : List α} {r : Nat} {x : α}, l[r]? = some x → (x :: l.eraseIdx r).Perm l
  | y :: l, 0, x, h => by simp at h; subst h; exact .refl _
  | y :: l, r + 1, x, h => by
    have ih := erase_perm (l := l) (r := r) (x := x) (by simpa using h)
    exact (List.Perm.swap y x _).trans (ih.cons y)
theorem perm_map {α β : Type} {f : α → β} : ∀ {l : List β} {ys : List α}, l.Perm (ys.map f) → ∃ zs : List α, zs.Perm ys ∧ l = zs.map f := by
  intro l ys h
  generalize hm : ys.map f = m at h
  induction h generalizing ys with
  | nil => exact ⟨[], by rw [List.map_eq_nil_iff.mp hm], rfl⟩
  | cons x h ih =>
    cases ys with
    | nil => cases hm
    | cons y ys =>
      cases hm
      obtain ⟨zs, h1, h2⟩ := ih rfl
      exact ⟨y :: zs, h1.cons y, by rw [h2]; rfl⟩
  | swap x y l =>
    match ys, hm with
    | a :: b :: ys, hm =>
      cases hm
      exact ⟨b :: a :: ys, .swap _ _ _, rfl⟩
  | trans h1 h2 ih1 ih2 =>
    obtain ⟨zs, q1, q2⟩ := ih2 hm
    obtain ⟨us, q3, q4⟩ := ih1 q2.symm
    exact ⟨us, q3.trans q1, q4⟩
theorem cut_take {xs : List D} {m : Nat} : cutD xs none (some (m : Int)) = xs.take m := by
  unfold cutD HT.sIx
  simp only [List.drop_zero, Nat.sub_zero]
  rw [if_neg (by omega), Int.toNat_natCast]
  rcases Nat.le_total m xs.length with h | h
  · rw [Nat.min_eq_left h]
  · rw [Nat.min_eq_right h, List.take_length, List.take_of_length_le h]
theorem SeqW.app {μ : List M} {w : W} {xs : List D} (h : SeqW μ w xs) (ν : List M) : SeqW (μ ++ ν) w xs := by
  cases h with
  | tup h => exact .tup h
  | lst h =>
    cases h with
    | lst => exact .lst .lst
    | sq => exact .lst .sq
    | own h => exact .lst (.own (by rw [List.getElem?_append_left (List.getElem?_eq_some_iff.mp h).1]; exact h))
theorem app_at {μ ν : List M} {j : Nat} {m : M} (h : μ[j]? = some m) : (μ ++ ν)[j]? = some m := by rw [List.getElem?_append_left (List.getElem?_eq_some_iff.mp h).1]; exact h
/-! ### _law_feed -/
abbrev s_law_feed : Stmt := top 70
theorem sc_law_feed : FnScope ["_law_script_here", "_law_k", "_law_cell"] ["_law_script_here", "_law_k"] (defScope s_law_feed) := ⟨rfl, rfl, rfl, by decide +kernel, rfl, by decide +kernel, by decide +kernel⟩
def S_law_feed : SpecD := fun ws μ R => ∃ (xs : List Int) (k : Nat), ws = [.val (.sq (xs.map .int)), .val (.int k)] ∧ k ≤ 2 ∧ ∀ a b : Int, 0 ≤ a → 0 ≤ b → b < 10 ^ 40 → R (.own μ.length) (μ ++ [cells a b 0])
theorem ok_law_feed {m : Mo} (T : Tops m) (F : Stands m "_law_feed" s_law_feed) : Callee m "_law_feed" 1 S_law_feed := by
  refine callee_of F sc_law_feed (ps := ["_law_script_here", "_law_k"]) (fun ws μ R h => by obtain ⟨_, _, rfl, _⟩ := h; rfl) (fun _ _ _ _ _ _ us hl => match us, hl with | [_, _], _ => rfl) fun X hm G fx hr ws μ R h => ?_
  subst hm
  obtain ⟨xs, k, rfl, hk, h⟩ := h
  have fin : ∀ cell : Int, WSs X [(defBody s_law_feed).getD 2 (.Pass ⟨0, 0, 0, 0⟩)] [some (.val (.sq (xs.map .int))), some (.val (.int k)), some (.val (.int cell))] μ ⟨fun _ μ' => RetR μ.length R (.val .non) μ', RetR μ.length R, fun _ _ => False, fun _ _ => False⟩ := fun cell => by
    refine s_one <| s_ret <| x_lstO <| a_cons <| x_max2 G T.max <| x_int <| x_sub <| x_v G 2 <| x_pow <| x_int <| x_int <| ii ⟨⟨by decide, by decide, by decide⟩, ii <| ii <| a_cons <| x_mod <| x_toint G T.int <| x_add <| x_mul <| x_v G 2 <| x_int <| ii ⟨.inr ⟨by decide, by decide⟩, x_mul <| x_int <| x_v G 1 <| ii ⟨.inl ⟨by decide, by decide⟩, ii ⟨_, rfl, x_add <| x_pow <| x_int <| x_int <| ii ⟨⟨by decide, by decide, by decide⟩, x_int <| ii <| ii ⟨by decide, a_cons <| x_int <| a_nil ⟨[.int _, .int _, .int 0], rfl, (by show 3 ≤ 100000; decide), ?_⟩⟩⟩⟩⟩⟩⟩
    show (if μ.length < μ.length then _ else _)
    rw [if_neg (Nat.lt_irrefl _)]
    refine ⟨_, at_last, .inr ?_⟩
    rw [List.take_left' rfl]
    refine h _ _ ?_ (Int.emod_nonneg _ (by decide)) ?_
    · split <;> omega
    · have h1 : ∀ z : Int, z % (10 ^ (39 : Int).toNat + 23) < 10 ^ (39 : Int).toNat + 23 := fun z => Int.emod_lt_of_pos _ (by decide)
      have h2 : (10 : Int) ^ (39 : Int).toNat + 23 < 10 ^ 40 := by decide
      exact Int.lt_trans (h1 _) h2
  have hcut : cutD (xs.map D.int) none (some (1 : Int)) = (xs.take 1).map D.int := by
    rw [show (1 : Int) = ((1 : Nat) : Int) from rfl, cut_take, List.map_take]
  refine s_cons <| s_set G 2 <| x_add <| x_mul <| x_int <| x_v G 1 <| ii ⟨.inl ⟨by decide, by decide⟩, x_sum G T.sum <| x_slL false <| x_v G 0 <| o_none <| o_some <| x_int ⟨1, rfl, xs.map .int, .sq, xs.take 1, by rw [hcut]; exact .lst, ii ?_⟩⟩
  refine s_cons <| s_if <| t_lt <| x_v G 1 <| x_len G T.len <| x_v G 0 ⟨xs.map .int, .lst .sq, ii ⟨fun kt => ?_, fun kf => s_nil (fin _)⟩⟩
  have kt := of_decide_eq_true kt
  rw [List.length_map] at kt
  have hkl : k < xs.length := by omega
  exact s_one <| s_set G 2 <| x_at <| x_v G 0 <| x_v G 1 ⟨xs.map .int, k, .int xs[k], .lst .sq, rfl, atN (by rw [List.getElem?_map, List.getElem?_eq_getElem hkl]; rfl), fin _⟩
/-! ### _law_one, _law_mixed, _law_names -/
abbrev s_law_one : Stmt := top 72
theorem sc_law_one : FnScope ["_law_feed_here", "_law_things"] ["_law_feed_here", "_law_things"] (defScope s_law_one) := ⟨rfl, rfl, rfl, by decide +kernel, rfl, by decide +kernel, by decide +kernel⟩
def SeqD (d : D) (xs : List D) : Prop := TupD d xs ∨ d = .lst xs
theorem SeqD.w {d : D} {xs : List D} (h : SeqD d xs) {μ : List M} : SeqW μ (.val d) xs := by
  rcases h with h | rfl
  · exact .tup h
  · exact .lst .lst
def S_law_one : SpecD := fun ws μ R => ∃ (j n : Nat) (d : D) (xs : List D), ws = [.own j, .val d] ∧ FeedAt μ j n ∧ n < 10 ^ 9 ∧ SeqD d xs ∧ xs ≠ [] ∧ xs.length ≤ 1000 ∧ ∀ x ∈ xs, ∀ μ', Fed μ μ' j (n + 1) → R (.val x) μ'
theorem ok_law_one {m : Mo} (T : Tops m) (F : Stands m "_law_one" s_law_one) (C1 : Callee m "_law_draw" 1 S_law_draw) : Callee m "_law_one" 2 S_law_one := by
  refine callee_of F sc_law_one (ps := ["_law_feed_here", "_law_things"]) (fun ws μ R h => by obtain ⟨_, _, _, _, rfl, _⟩ := h; rfl) (fun _ _ _ _ _ _ us hl => match us, hl with | [_, _], _ => rfl) fun X hm G fx hr ws μ R h => ?_
  subst hm
  obtain ⟨j, n, d, xs, rfl, hf, hn, hs, hne, hl, h⟩ := h
  have hpos : 0 < xs.length := List.length_pos_iff.mpr hne
  refine s_one <| s_ret <| x_at <| x_v G 1 <| x_call G C1 hr (by decide) <| a_cons <| x_v G 0 <| a_cons <| x_len G T.len <| x_v G 1 ⟨xs, hs.w, a_nil ⟨j, n, xs.length, rfl, hf, hn, by omega, by omega, fun r μ' hr hF => ?_⟩⟩
  have hrl : r < xs.length := by omega
  exact ⟨xs, r, xs[r], hs.w, rfl, atN (List.getElem?_eq_getElem hrl), ret_own hF (h _ (List.getElem_mem _) μ' hF)⟩
abbrev s_law_mixed : Stmt := top 73
theorem sc_law_mixed : FnScope ["_law_feed_here", "_law_things", "_law_pool", "_law_got", "_law_turn"] ["_law_feed_here", "_law_things"] (defScope s_law_mixed) := ⟨rfl, rfl, rfl, by decide +kernel, rfl, by decide +kernel, by decide +kernel⟩
def S_law_mixed : SpecD := fun ws μ R => ∃ (j n : Nat) (w : W) (xs : List D), ws = [.own j, w] ∧ FeedAt μ j n ∧ n + 1000 < 10 ^ 9 ∧ SeqW μ w xs ∧ xs.length ≤ 1000 ∧ ∀ ys μ', ys.Perm xs → Fed μ μ' j (n + xs.length) → R (.val (.lst ys)) μ'
theorem ok_law_mixed {m : Mo} (T : Tops m) (F : Stands m "_law_mixed" s_law_mixed) (C1 : Callee m "_law_draw" 1 S_law_draw) : Callee m "_law_mixed" 2 S_law_mixed := by
  refine callee_of F sc_law_mixed (ps := ["_law_feed_here", "_law_things"]) (fun ws μ R h => by obtain ⟨_, _, _, _, rfl, _⟩ := h; rfl) (fun _ _ _ _ _ _ us hl => match us, hl with | [_, _], _ => rfl) fun X hm G fx hr ws μ R h => ?_
  subst hm
  obtain ⟨j, n, w, xs, rfl, hf, hn, hs, hl, h⟩ := h
  have hjl := hf.lt
  have hl1 : ∀ a : M, (μ ++ [a]).length = μ.length + 1 := fun a => by simp
  have e0 : ∀ (ps gs : List D) (μ1 : List M), μ1.length = μ.length → (μ1 ++ [M.ml ps] ++ [M.ml gs])[μ.length]? = some (.ml ps) ∧ (μ1 ++ [M.ml ps] ++ [M.ml gs])[μ.length + 1]? = some (.ml gs) := fun ps gs μ1 e => by
    rw [← e]
    exact ⟨by simp, by rw [show μ1.length + 1 = (μ1 ++ [M.ml ps]).length by simp]; exact at_last⟩
  have s0 : ∀ (ps gs : List D) (μ1 : List M) (ps' : List D), μ1.length = μ.length → (μ1 ++ [M.ml ps] ++ [M.ml gs]).set μ.length (.ml ps') = μ1 ++ [.ml ps'] ++ [.ml gs] := fun ps gs μ1 ps' e => by
    rw [← e, List.append_assoc, List.set_append_right _ _ (Nat.le_refl _)]
    simp
  have s1 : ∀ (ps gs : List D) (μ1 : List M) (gs' : List D), μ1.length = μ.length → (μ1 ++ [M.ml ps] ++ [M.ml gs]).set (μ.length + 1) (.ml gs') = μ1 ++ [.ml ps] ++ [.ml gs'] := fun ps gs μ1 gs' e => by
    rw [← e, show μ1.length + 1 = (μ1 ++ [M.ml ps]).length by simp, set_last]
  refine s_cons <| s_par G 2 3 <| x_list G T.list true <| x_v G 1 ⟨xs, hs, x_lstO <| a_nil ⟨[], rfl, Nat.zero_le _, ?_⟩⟩
  rw [hl1]
  refine s_cons <| s_for G <| i_rng1 G T.range <| x_len G T.len <| x_v G 1 ⟨xs, (hs.app _).app _, xs.length, rfl, by omega, by omega, fun i δ μ' => ∃ (ps gs : List D) (μ1 : List M) (a : Option W), δ = [some (.own j), some w, some (.own μ.length), some (.own (μ.length + 1)), a] ∧ μ' = μ1 ++ [.ml ps] ++ [.ml gs] ∧ Fed μ μ1 j (n + i) ∧ (gs ++ ps).Perm xs ∧ ps.length + i = xs.length, ⟨xs, [], μ, none, rfl, rfl, Fed.refl hf, .refl _, by simp⟩, fun _ _ _ _ _ => trivial, ?_, ?_⟩
  · rintro i d δ' μ' hd ⟨ps, gs, μ1, a, rfl, rfl, hF, hp, hpl⟩
    obtain ⟨hlt, rfl⟩ := rng_get hd
    have hlt : i < xs.length := by simpa using hlt
    have e1 := e0 ps gs μ1 hF.len
    have hj1 : j < μ1.length := by rw [hF.len]; exact hjl
    refine g_name G 4 ?_
    refine s_one <| s_expr <| x_append <| x_v G 3 ⟨μ.length + 1, rfl, ⟨_, e1.2⟩, x_popAt <| x_v G 2 ⟨μ.length, rfl, ⟨_, e1.1⟩, x_call G C1 hr (by decide) <| a_cons <| x_v G 0 <| a_cons <| x_len G T.len <| x_v G 2 ⟨ps, .lst (.own e1.1), a_nil ⟨j, n + i, ps.length, rfl, (hF.at_.app _).app _, by omega, by omega, by omega, fun r μ' hr hF2 => ?_⟩⟩⟩⟩
    have hrl : r < ps.length := by omega
    rw [List.append_assoc] at hF2
    obtain ⟨μ2, rfl, hF3⟩ := Fed.app hj1 hF2
    have hF4 := hF.trans hF3
    have e2 := e0 ps gs μ2 hF4.len
    rw [← List.append_assoc]
    refine ⟨ps, r, ps[r], e2.1, rfl, by omega, by omega, by rw [Int.toNat_natCast]; exact List.getElem?_eq_getElem hrl, ?_⟩
    rw [s0 ps gs μ2 _ hF4.len, Int.toNat_natCast]
    have e3 := e0 (ps.eraseIdx r) gs μ2 hF4.len
    have hgl : gs.length ≤ 1000 := by
      have := hp.length_eq
      rw [List.length_append] at this
      omega
    refine ⟨gs, ps[r], e3.2, rfl, by omega, ?_⟩
    refine ⟨ps.eraseIdx r, gs ++ [ps[r]], μ2, _, rfl, ?_, by rw [show n + (i + 1) = n + i + 1 by omega]; exact hF4, ?_, ?_⟩
    · rw [s1 _ _ μ2 _ hF4.len]
    · refine List.Perm.trans ?_ hp
      rw [List.append_assoc]
      exact (erase_perm (List.getElem?_eq_getElem hrl)).append_left gs
    · rw [List.length_eraseIdx_of_lt hrl]; omega
  · rintro δ' μ' ⟨ps, gs, μ1, a, rfl, rfl, hF, hp, hpl⟩
    rw [rng_length, Int.toNat_natCast] at hpl hF
    have hps : ps = [] := List.length_eq_zero_iff.mp (by omega)
    subst hps
    rw [List.append_nil] at hp
    refine s_one <| s_ret <| x_v G 3 ?_
    show (if μ.length + 1 < μ.length then _ else _)
    rw [if_neg (by omega)]
    refine ⟨.ml gs, (e0 [] gs μ1 hF.len).2, .inl ?_⟩
    rw [List.append_assoc, List.take_left' hF.len]
    exact h gs μ1 hp hF
/-- constant texts -/
inductive StrEs : List Expr → List Str → Prop
  | nil : StrEs [] []
  | cons {s : Str} {j : Nat} {p : Pos} {es : List Expr} {ss : List Str} : StrEs es ss → StrEs (.Constant (.str s) j p :: es) (s :: ss)
theorem wa_strs {X : Cx} {δ : DS} {μ : List M} : ∀ {es : List Expr} {ss : List Str} {RL : List W → List M → Prop}, StrEs es ss → RL ((ss.map D.str).map W.val) μ → WA X es δ μ RL
  | _, _, _, .nil, h => a_nil h
  | _, _, RL, .cons t, h => a_cons (x_str (wa_strs (RL := fun ws μ2 => RL (_ :: ws) μ2) t h)) rfl
theorem x_strs {X : Cx} {δ : DS} {μ : List M} {R : W → List M → Prop} {es : List Expr} {pos : Pos} (ss : List Str) (hl : ss.length ≤ 100000) (t : StrEs es ss) (h : R (.val (.lst (ss.map .str))) μ) : WE X (.List es pos) δ μ R :=
  x_lst (wa_strs t ⟨ss.map .str, rfl, by rw [List.length_map]; exact hl, h⟩)
def nms : List Str := ["a", "b10", "b9", "zz", "c", "q1w2e3r4", "d", "x", "m0", "road", "k", "e5", "y", "i2"]
def nameB (z : Str) : Bool := decide (1 ≤ z.length) && decide (z.length ≤ 8) && (match z.cps.toList with | c :: _ => letters.cps.toList.contains c | [] => false) && z.cps.toList.all fun c => signs.cps.toList.contains c
theorem nameOk_of {z : Str} (h : nameB z = true) : NameOk z := by
  unfold nameB at h
  rw [Bool.and_eq_true, Bool.and_eq_true, Bool.and_eq_true, decide_eq_true_eq, decide_eq_true_eq] at h
  obtain ⟨⟨⟨h1, h2⟩, h3⟩, h4⟩ := h
  refine ⟨h1, h2, ?_, fun c hc => List.contains_iff_mem.mp (List.all_eq_true.mp h4 c hc)⟩
  cases e : z.cps.toList with
  | nil => rw [e] at h3; cases h3
  | cons c r => rw [e] at h3; exact ⟨c, rfl, List.contains_iff_mem.mp h3⟩
theorem nms_b : nms.all nameB = true := by decide +kernel
theorem nms_ok (z : Str) (hz : z ∈ nms) : NameOk z := nameOk_of (List.all_eq_true.mp nms_b z hz)
theorem nms_nd : nms.Nodup := by decide +kernel
/-! ### _law_rota, _law_words, _law_round, _law_end -/
abbrev s_law_rota : Stmt := top 76
theorem sc_law_rota : FnScope ["_law_feed_here", "_law_web_here", "_law_road"] ["_law_feed_here", "_law_web_here"] (defScope s_law_rota) := ⟨rfl, rfl, rfl, by decide +kernel, rfl, by decide +kernel, by decide +kernel⟩
def S_law_rota : SpecD := fun ws μ R => ∃ (j n : Nat) (w : Wb), ws = [.own j, .val (webD w)] ∧ FeedAt μ j n ∧ n + 1000 < 10 ^ 9 ∧ w.rs.length ≤ 14 ∧ ∀ (rt : List Str) μ', rt.Perm (w.rs.map (·.1)) → Fed μ μ' j (n + 14) → R (.val (rowD rt)) μ'
theorem ok_law_rota {m : Mo} (T : Tops m) (F : Stands m "_law_rota" s_law_rota) (C1 : Callee m "_law_mixed" 2 S_law_mixed) : Callee m "_law_rota" 3 S_law_rota := by
  refine callee_of F sc_law_rota (ps := ["_law_feed_here", "_law_web_here"]) (fun ws μ R h => by obtain ⟨_, _, _, rfl, _⟩ := h; rfl) (fun _ _ _ _ _ _ us hl => match us, hl with | [_, _], _ => rfl) fun X hm G fx hr ws μ R h => ?_
  subst hm
  obtain ⟨j, n, w, rfl, hf, hn, hl, h⟩ := h
  refine s_one <| s_ret <| x_tuple G T.tuple <| x_call G C1 hr (by decide) <| a_cons <| x_v G 0 <| a_cons <| x_lc (o := false) G [("_law_road", 2)] <| lc_map (fun d => match d with | .tup (x :: _) => x | _ => .non) <| i_tup <| x_web1 (w := w) <| x_v G 1 ⟨rfl, rsD w.rs, w.rs.map roadD, rfl, tupT, by rw [List.length_map]; omega, trivial, fun i d hi b => ?_, a_nil ⟨j, n, _, (w.rs.map (·.1)).map .str, rfl, hf, hn, ?_, by rw [List.length_map, List.length_map]; omega, fun ys μ' hp hF => ?_⟩⟩
  · obtain ⟨r, h1, rfl⟩ := maps_get hi
    exact c_name (G.bk rfl) 2 fun b => x_at <| x_v (G.bk rfl) 2 <| x_int ⟨_, 0, _, .tup tupT, rfl, rfl, rfl, rfl⟩
  · rw [List.map_map, List.map_map]
    exact .lst .lst
  · obtain ⟨zs, hz1, rfl⟩ := perm_map hp
    rw [List.length_map, List.length_map] at hF
    exact ⟨_, .lst, ret_own hF (h zs μ' hz1 (hF.mono (by omega)))⟩
def wrds : List Str := ["a", "b10", "b9", "zz", "c", "news", "q1w2e3r4", "w1", "w10", "w2", "d", "x", "m0", "no", "yes", "k", "e5", "tell", "ask", "y", "i2", "heard"]
theorem wrds_b : wrds.all nameB = true := by decide +kernel
theorem wrds_ok (z : Str) (hz : z ∈ wrds) : NameOk z := nameOk_of (List.all_eq_true.mp wrds_b z hz)
theorem wrds_nd : wrds.Nodup := by decide +kernel
abbrev s_law_round : Stmt := top 79
theorem sc_law_round : FnScope ["_law_week_here", "_law_day"] ["_law_week_here", "_law_day"] (defScope s_law_round) := ⟨rfl, rfl, rfl, by decide +kernel, rfl, by decide +kernel, by decide +kernel⟩
def S_law_round : SpecD := fun ws μ R => ∃ (k : List (List Str)) (day : Int), ws = [.val (weekD k), .val (.int day)] ∧ 1 ≤ k.length ∧ R (.val (rowD (rndOf k day))) μ
theorem ok_law_round {m : Mo} (T : Tops m) (F : Stands m "_law_round" s_law_round) : Callee m "_law_round" 1 S_law_round := by
  refine callee_of F sc_law_round (ps := ["_law_week_here", "_law_day"]) (fun ws μ R h => by obtain ⟨d, _, rfl, _⟩ := h; rfl) (fun _ _ _ _ _ _ us hl => match us, hl with | [_, _], _ => rfl) fun X hm G fx hr ws μ R h => ?_
  subst hm
  obtain ⟨k, day, rfl, hk, h⟩ := h
  refine s_one <| s_ret <| x_at <| x_v G 0 <| x_mod <| x_toint G T.int <| x_sub <| x_v G 1 <| x_int <| ii ⟨_, rfl, x_len G T.len <| x_v G 0 ⟨_, .tup tupT, ii ⟨?_, ⟨_, _, _, .tup tupT, rfl, ?_, ret_val h⟩⟩⟩⟩
  · rw [List.length_map]; omega
  · rw [List.length_map]
    exact at_rnd hk
abbrev s_law_end : Stmt := top 82
theorem sc_law_end : FnScope ["_law_week_here", "_law_count_here"] ["_law_week_here", "_law_count_here"] (defScope s_law_end) := ⟨rfl, rfl, rfl, by decide +kernel, rfl, by decide +kernel, by decide +kernel⟩
def S_law_end : SpecD := fun ws μ R => ∃ (k : List (List Str)) (c : Int), ws = [.val (weekD k), .val (.int c)] ∧ 1 ≤ k.length ∧ R (.val (mom c ((rndOf k c).length : Int))) μ
theorem ok_law_end {m : Mo} (T : Tops m) (F : Stands m "_law_end" s_law_end) (C1 : Callee m "_law_round" 1 S_law_round) : Callee m "_law_end" 2 S_law_end := by
  refine callee_of F sc_law_end (ps := ["_law_week_here", "_law_count_here"]) (fun ws μ R h => by obtain ⟨_, _, rfl, _⟩ := h; rfl) (fun _ _ _ _ _ _ us hl => match us, hl with | [_, _], _ => rfl) fun X hm G fx hr ws μ R h => ?_
  subst hm
  obtain ⟨k, c, rfl, hk, h⟩ := h
  refine s_one <| s_ret <| x_tup <| a_cons <| x_v G 1 <| a_cons <| x_len G T.len <| x_call G C1 hr (by decide) <| a_cons <| x_v G 0 <| a_cons <| x_v G 1 <| a_nil ⟨k, c, rfl, hk, (rndOf k c).map .str, .tup tupT, a_nil ⟨[.int c, .int _], rfl, (by show 2 ≤ 100000; decide), ret_val ?_⟩⟩
  rw [List.length_map]
  exact h
end DL
set_option Elab.async false
set_option linter.all false
set_option maxRecDepth 100000
set_option maxHeartbeats 200000
set_option pp.maxSteps 250
namespace DL
open PySem PySem.Spec PyProof.Rows L2
abbrev s_law_names : Stmt := top 74
theorem sc_law_names : FnScope ["_law_feed_here", "_law_many"] ["_law_feed_here", "_law_many"] (defScope s_law_names) := ⟨rfl, rfl, rfl, by decide +kernel, rfl, by decide +kernel, by decide +kernel⟩
def S_law_names : SpecD := fun ws μ R => ∃ (j n many : Nat), ws = [.own j, .val (.int many)] ∧ FeedAt μ j n ∧ n + 1000 < 10 ^ 9 ∧ many ≤ 14 ∧ ∀ (zs : List Str) μ', zs.Nodup → zs.length = many → (∀ z ∈ zs, NameOk z) → Fed μ μ' j (n + 14) → R (.val (.lst (zs.map .str))) μ'
def strEsB : List Expr → List Str → Bool
  | [], [] => true
  | .Constant (.str s) _ _ :: es, z :: ss => decide (s = z) && strEsB es ss
  | _, _ => false
theorem strEs_of : ∀ {l : List Expr} {ss : List Str}, strEsB l ss = true → StrEs l ss
  | [], [], _ => .nil
  | .Constant (.str s) _ _ :: es, z :: ss, h => by
    have h : (decide (s = z) && strEsB es ss) = true := h
    rw [Bool.and_eq_true, decide_eq_true_eq] at h
    rw [← h.1]
    exact .cons (strEs_of h.2)
theorem names_body {X : Cx} {k : Nat} (T : Tops (moOf X)) (C1 : Callee (moOf X) "_law_mixed" 2 S_law_mixed) (G : GX X (defScope s_law_names) ["_law_feed_here", "_law_many"]) (hr : Room k X.A) (hk : 2 ≤ k) {j n many : Nat} {μ : List M} {D0 : DE} (hf : FeedAt μ j n) (hn : n + 1000 < 10 ^ 9) (l : List Expr) (t : StrEs l nms) {p1 p2 p3 p4 p5 p6 p7 p8 : Pos}
    (h : ∀ (zs : List Str) μ', zs.Perm nms → Fed μ μ' j (n + 14) → D0.rt (.val (.lst ((zs.take many).map .str))) μ') : WSs X [.Return (some (.Subscript (.Call (.Name "_law_mixed" p1) [.Name "_law_feed_here" p2, .List l p3] [] p4) (.Slice none (some (.Name "_law_many" p5)) none p6) p7)) p8] [some (.own j), some (.val (.int many))] μ D0 := by
  refine s_one <| s_ret <| x_slL false <| x_call G C1 hr hk <| a_cons <| x_v G 0 <| a_cons <| x_strs nms (by show 14 ≤ 100000; decide) t <| a_nil ⟨j, n, _, nms.map .str, rfl, hf, hn, .lst .lst, (by show 14 ≤ 1000; decide), fun ys μ' hp hF => o_none <| o_some <| x_v G 1 ⟨many, rfl, ys, .lst, ?_⟩⟩
  obtain ⟨zs, hz1, rfl⟩ := perm_map hp
  show D0.rt _ _
  rw [cut_take, ← List.map_take]
  exact h zs μ' hz1 hF
theorem ok_law_names {m : Mo} (T : Tops m) (F : Stands m "_law_names" s_law_names) (C1 : Callee m "_law_mixed" 2 S_law_mixed) : Callee m "_law_names" 3 S_law_names := by
  refine callee_of F sc_law_names (ps := ["_law_feed_here", "_law_many"]) (fun ws μ R h => by obtain ⟨_, _, _, rfl, _⟩ := h; rfl) (fun _ _ _ _ _ _ us hl => match us, hl with | [_, _], _ => rfl) fun X hm G fx hr ws μ R h => ?_
  subst hm
  obtain ⟨j, n, many, rfl, hf, hn, hm, h⟩ := h
  refine names_body T C1 G hr (by decide) hf hn _ (strEs_of (by decide +kernel)) fun zs μ' hz1 hF => ?_
  have hnd : zs.Nodup := hz1.nodup_iff.mpr nms_nd
  have hlen : zs.length = 14 := hz1.length_eq
  exact ret_own hF (h (zs.take many) μ' (hnd.sublist (List.take_sublist _ _)) (by rw [List.length_take]; omega) (fun z hz => nms_ok z (hz1.mem_iff.mp (List.mem_of_mem_take hz))) hF)
abbrev s_law_words : Stmt := top 80
theorem sc_law_words : FnScope ["_law_feed_here", "_law_words_here"] ["_law_feed_here"] (defScope s_law_words) := ⟨rfl, rfl, rfl, by decide +kernel, rfl, by decide +kernel, by decide +kernel⟩
/-- the words come owned -/
def S_law_words : SpecD := fun ws μ R => ∃ (j n : Nat), ws = [.own j] ∧ FeedAt μ j n ∧ n + 1000 < 10 ^ 9 ∧ ∀ (zs : List Str) μ', zs.Nodup → zs.length = 22 → (∀ z ∈ zs, NameOk z) → Fed μ μ' j (n + 22) → R (.val (.lst (zs.map .str))) μ'
theorem wrds_len : wrds.length = 22 := by decide +kernel
theorem words_es : strEsB (match defBody s_law_words with | .Assign _ (.List l _) _ :: _ => l | _ => []) wrds = true := by decide +kernel
theorem words_body {X : Cx} {k : Nat} (T : Tops (moOf X)) (C1 : Callee (moOf X) "_law_mixed" 2 S_law_mixed) (G : GX X (defScope s_law_words) ["_law_feed_here", "_law_words_here"]) (fx : FX X) (hr : Room k X.A) (hk : 2 ≤ k) {j n : Nat} {μ : List M} {D0 : DE} (hf : FeedAt μ j n) (hn : n + 1000 < 10 ^ 9) (l : List Expr) (t : StrEs l wrds) {p1 p2 p3 p4 p5 p6 p7 p8 : Pos}
    (h : ∀ (zs : List Str) μ', zs.Perm wrds → Fed μ μ' j (n + 22) → D0.rt (.val (.lst (zs.map .str))) μ') : WSs X [.Assign [.Name "_law_words_here" p1] (.List l p2) p3, .Return (some (.Call (.Name "_law_mixed" p4) [.Name "_law_feed_here" p5, .Name "_law_words_here" p6] [] p7)) p8] [some (.own j), none] μ D0 := by
  refine s_cons <| s_set G 1 <| x_strs wrds (by show 22 ≤ 100000; decide) t ?_
  refine s_one <| s_ret <| x_call G C1 hr hk <| a_cons <| x_v G 0 <| a_cons <| x_v G 1 <| a_nil ⟨j, n, _, wrds.map .str, rfl, hf, hn, .lst .lst, (by show 22 ≤ 1000; decide), fun ys μ' hp hF => ?_⟩
  obtain ⟨zs, hz1, rfl⟩ := perm_map hp
  exact h zs μ' hz1 hF
theorem ok_law_words {m : Mo} (T : Tops m) (F : Stands m "_law_words" s_law_words) (C1 : Callee m "_law_mixed" 2 S_law_mixed) : Callee m "_law_words" 3 S_law_words := by
  refine callee_of F sc_law_words (ps := ["_law_feed_here"]) (fun ws μ R h => by obtain ⟨_, _, rfl, _⟩ := h; rfl) (fun _ _ _ _ _ _ us hl => match us, hl with | [_], _ => rfl) fun X hm G fx hr ws μ R h => ?_
  subst hm
  obtain ⟨j, n, rfl, hf, hn, h⟩ := h
  have hh : ∀ (zs : List Str) μ', zs.Perm wrds → Fed μ μ' j (n + 22) → RetR μ.length R (.val (.lst (zs.map .str))) μ' := fun zs μ' hz1 hF => ret_own hF (h zs μ' (hz1.nodup_iff.mpr wrds_nd) (hz1.length_eq.trans wrds_len) (fun z hz => wrds_ok z (hz1.mem_iff.mp hz)) hF)
  refine words_body T C1 G fx hr (by decide) hf hn _ ?_ ?_
  · exact strEs_of words_es
  · exact hh
end DL
set_option Elab.async false
set_option linter.all false
set_option maxRecDepth 100000
set_option maxHeartbeats 400000
set_option pp.maxSteps 250
namespace DL
open PySem PySem.Spec PyProof.Rows L2
theorem star_name (x : Str) (p : Pos) (es : List Expr) (env : Env) : starEach (.Name x p :: es) env = (false, eval (.Name x p) env) :: starEach es env := rfl
theorem star_list (l : List Expr) (p : Pos) (es : List Expr) (env : Env) : starEach (.List l p :: es) env = (false, eval (.List l p) env) :: starEach es env := rfl
theorem star_call (f : Expr) (l : List Expr) (kw : List Keyword) (p : Pos) (es : List Expr) (env : Env) : starEach (.Call f l kw p :: es) env = (false, eval (.Call f l kw p) env) :: starEach es env := rfl
theorem pl_list (l : List Expr) (p pos : Pos) (env : Env) : (backTo pos (starEach [.List l p] env)).any (·.1) = false := rfl
/-- f(name, [..]) -/
theorem x_callNL {X : Cx} {sc : Scope} {N : List Str} {δ : DS} {μ : List M} {R : W → List M → Prop} (G : GX X sc N) {x y : Str} {k k' : Nat} {S : SpecD} {p p2 p3 pos : Pos} {l : List Expr} (C : Callee (moOf X) x k S) (hr : Room k' X.A) (hk : k ≤ k') (h : WE X (.Name y p2) δ μ fun w μ1 => WE X (.List l p3) δ μ1 fun w2 μ2 => S [w, w2] μ2 R) (hg : sc.names.lookup x = some .globalImplicit := by rfl)
    (hdb : (x == ("__debug__" : Str)) = false := by decide) : WE X (.Call (.Name x p) [.Name y p2, .List l p3] [] pos) δ μ R :=
  x_call G C hr hk (a_cons (h.mono fun w μ1 h => a_cons (h.mono fun w2 μ2 h => a_nil h) (star_list _ _ _ _)) (star_name _ _ _ _)) hg hdb (star_name _ _ _ _) (pl_list _ _ _ _)
/-! ### _law_week, _law_moment -/
abbrev s_law_week : Stmt := top 77
theorem sc_law_week : FnScope ["_law_feed_here", "_law_web_here", "_law_rota_here", "_law_rounds", "_law_turn", "_law_some"] ["_law_feed_here", "_law_web_here"] (defScope s_law_week) := ⟨rfl, rfl, rfl, by decide +kernel, rfl, by decide +kernel, by decide +kernel⟩
def S_law_week : SpecD := fun ws μ R => ∃ (j n : Nat) (w : Wb), ws = [.own j, .val (webD w)] ∧ FeedAt μ j n ∧ n + 2000 < 10 ^ 9 ∧ WOk w ∧ ∀ (k : List (List Str)) μ', KOk w k → Fed μ μ' j (n + 200) → R (.val (weekD k)) μ'
theorem ok_law_week {m : Mo} (T : Tops m) (F : Stands m "_law_week" s_law_week) (C1 : Callee m "_law_rota" 3 S_law_rota) (C2 : Callee m "_law_draw" 1 S_law_draw) (C3 : Callee m "_law_mixed" 2 S_law_mixed) : Callee m "_law_week" 4 S_law_week := by
  refine callee_of F sc_law_week (ps := ["_law_feed_here", "_law_web_here"]) (fun ws μ R h => by obtain ⟨_, _, _, rfl, _⟩ := h; rfl) (fun _ _ _ _ _ _ us hl => match us, hl with | [_, _], _ => rfl) fun X hm G fx hr ws μ R h => ?_
  subst hm
  obtain ⟨j, n, w, rfl, hf, hn, ok, h⟩ := h
  have hrm := ok.rm
  refine s_cons <| s_set G 2 <| x_call G C1 hr (by decide) <| a_cons <| x_v G 0 <| a_cons <| x_v G 1 <| a_nil ⟨j, n, w, rfl, hf, by omega, by omega, fun rt μ1 hp hF1 => ?_⟩
  have hrl : rt.length ≤ 14 := by rw [hp.length_eq, List.length_map]; omega
  have hrn : rt.Nodup := hp.nodup_iff.mpr ok.rn
  refine s_cons <| s_if <| t_eq <| x_call G C2 hr (by decide) <| a_cons <| x_v G 0 <| a_cons <| x_int <| a_nil ⟨j, n + 14, 2, rfl, hF1.at_, by omega, by omega, by omega, fun r μ2 hr2 hF2 => x_int ⟨_, .int _ _, fun kt => ?_, fun kf => s_nil ?_⟩⟩
  · have hF := hF1.trans hF2
    refine s_one <| s_ret <| x_tup <| a_cons <| x_v G 2 <| a_nil ⟨[rowD rt], rfl, (by show 1 ≤ 100000; decide), ret_own hF (h [rt] μ2 ⟨Nat.le_refl _, (by show 1 ≤ 4; decide), fun r hr => ?_, fun r hr x hx => ?_⟩ (hF.mono (by omega)))⟩
    · rw [List.mem_singleton.mp hr]; exact hrn
    · rw [List.mem_singleton.mp hr] at hx
      exact hp.mem_iff.mp hx
  · have hF := hF1.trans hF2
    have hjl := hf.lt
    refine s_cons <| s_set G 3 <| x_lstO <| a_nil ⟨[], rfl, Nat.zero_le _, ?_⟩
    rw [hF.len]
    refine s_cons <| s_for G <| i_rng1 G T.range <| x_add <| x_int <| x_call G C2 hr (by decide) <| a_cons <| x_v G 0 <| a_cons <| x_int <| a_nil ⟨j, n + 15, 4, rfl, hF.at_.app _, by omega, by omega, by omega, fun r3 μ3 hr3 hF3 => ii ⟨_, rfl, by omega, by omega, ?_⟩⟩
    obtain ⟨μ3', rfl, hF3'⟩ := Fed.app (by rw [hF.len]; exact hjl) hF3
    have hF := hF.trans hF3'
    refine ⟨fun i δ μ' => ∃ (k : List (List Str)) (μ1 : List M) (a b : Option W), δ = [some (.own j), some (.val (webD w)), some (.val (rowD rt)), some (.own μ.length), a, b] ∧ μ' = μ1 ++ [.ml (k.map rowD)] ∧ Fed μ μ1 j (n + 16 + i * 20) ∧ k.length = i ∧ (∀ r ∈ k, r.Nodup) ∧ ∀ r ∈ k, ∀ x ∈ r, x ∈ w.rs.map (·.1), ⟨[], μ3', none, none, rfl, rfl, hF.mono (by omega), rfl, fun _ h => (nomatch h), fun _ h => (nomatch h)⟩, fun _ _ _ _ _ => trivial, ?_, ?_⟩
    · rintro i d δ' μ' hd ⟨k, μ1, a, b, rfl, rfl, hF, hkl, hk1, hk2⟩
      obtain ⟨hlt, rfl⟩ := rng_get hd
      have hlt : i < 5 := by omega
      have hj1 : j < μ1.length := by rw [hF.len]; exact hjl
      refine g_name G 4 ?_
      refine s_cons <| s_set G 5 <| x_call G C3 hr (by decide) <| a_cons <| x_v G 0 <| a_cons <| x_v G 2 <| a_nil ⟨j, n + 16 + i * 20, _, rt.map .str, rfl, hF.at_.app _, by omega, .tup tupT, by rw [List.length_map]; omega, fun ys μ4 hp4 hF4 => ?_⟩
      rw [List.length_map] at hF4
      obtain ⟨zs, hz, rfl⟩ := perm_map hp4
      obtain ⟨μ4', rfl, hF4'⟩ := Fed.app hj1 hF4
      have hF := hF.trans hF4'
      have hj4 : j < μ4'.length := by rw [hF.len]; exact hjl
      have hzn : zs.Nodup := hz.nodup_iff.mpr hrn
      have hzl : zs.length ≤ 14 := by rw [hz.length_eq]; exact hrl
      have hzm : ∀ x ∈ zs, x ∈ w.rs.map (·.1) := fun x hx => hp.mem_iff.mp (hz.mem_iff.mp hx)
      have at4 : ∀ (ν : List M) (m : M), ν.length = μ.length → (ν ++ [m])[μ.length]? = some m := fun ν m e => by rw [← e]; exact at_last
      have set4 : ∀ (ν : List M) (m m' : M), ν.length = μ.length → (ν ++ [m]).set μ.length m' = ν ++ [m'] := fun ν m m' e => by rw [← e]; exact set_last
      -- the round's end, whatever it is
      have fin : ∀ (us : List Str) (μ5 : List M), us.Nodup → (∀ x ∈ us, x ∈ w.rs.map (·.1)) → Fed μ μ5 j (n + 16 + (i + 1) * 20) → ∃ xs d, (μ5 ++ [M.ml (k.map rowD)])[μ.length]? = some (.ml xs) ∧ W.val (.tup (us.map .str)) = .val d ∧ xs.length ≤ 40000 ∧ (∃ (k' : List (List Str)) (μ1 : List M) (a' b' : Option W), [some (W.own j), some (.val (webD w)), some (.val (rowD rt)), some (.own μ.length), some (.val (.int (0 + (i : Int)))), some (.val (.lst (zs.map .str)))] = [some (.own j), some (.val (webD w)), some (.val (rowD rt)), some (.own μ.length), a', b'] ∧ (μ5 ++ [M.ml (k.map rowD)]).set μ.length (.ml (xs ++ [d])) = μ1 ++ [.ml (k'.map rowD)] ∧ Fed μ μ1 j (n + 16 + (i + 1) * 20) ∧ k'.length = i + 1 ∧ (∀ r ∈ k', r.Nodup) ∧ ∀ r ∈ k', ∀ x ∈ r, x ∈ w.rs.map (·.1)) := fun us μ5 h1 h2 hF5 =>
        ⟨k.map rowD, rowD us, at4 μ5 _ hF5.len, rfl, by rw [List.length_map]; omega, k ++ [us], μ5, _, _, rfl, by rw [set4 μ5 _ _ hF5.len, List.map_append]; rfl, hF5, by rw [List.length_append, hkl]; rfl, fun r hr => by
          rcases List.mem_append.mp hr with z | z
          · exact hk1 r z
          · rw [List.mem_singleton.mp z]; exact h1, fun r hr => by
          rcases List.mem_append.mp hr with z | z
          · exact hk2 r z
          · rw [List.mem_singleton.mp z]; exact h2⟩
      refine s_one <| s_expr <| x_append <| x_v G 3 ⟨μ.length, rfl, ⟨_, at4 μ4' _ hF.len⟩, x_tuple G T.tuple <| x_if <| t_eq <| x_call G C2 hr (by decide) <| a_cons <| x_v G 0 <| a_cons <| x_int <| a_nil ⟨j, n + 16 + i * 20 + rt.length, 3, rfl, hF.at_.app _, by omega, by omega, by omega, fun r5 μ5 hr5 hF5 => x_int ⟨_, .int _ _, fun kt => ?_, fun kf => ?_⟩⟩⟩
      · obtain ⟨μ5', rfl, hF5'⟩ := Fed.app hj4 hF5
        exact x_v G 5 ⟨zs.map .str, .lst, fin zs μ5' hzn hzm ((hF.trans hF5').mono (by omega))⟩
      · obtain ⟨μ5', rfl, hF5'⟩ := Fed.app hj4 hF5
        have hF := hF.trans hF5'
        refine x_slL false <| x_v G 5 <| o_none <| o_some <| x_call G C2 hr (by decide) <| a_cons <| x_v G 0 <| a_cons <| x_add <| x_len G T.len <| x_v G 5 ⟨zs.map .str, .lst .lst, x_int <| ii <| a_nil ⟨j, n + 16 + i * 20 + rt.length + 1, _, rfl, hF.at_.app _, by omega, by rw [List.length_map]; omega, by rw [List.length_map]; omega, fun r6 μ6 hr6 hF6 => ⟨_, rfl, zs.map .str, .lst, ?_⟩⟩⟩
        obtain ⟨μ6', rfl, hF6'⟩ := Fed.app (by rw [hF.len]; exact hjl) hF6
        show ∃ xs, LstW _ (W.val (.lst _)) xs ∧ _
        rw [cut_take, ← List.map_take]
        exact ⟨_, .lst, fin (zs.take r6) μ6' (hzn.sublist (List.take_sublist _ _)) (fun x hx => hzm x (List.mem_of_mem_take hx)) ((hF.trans hF6').mono (by omega))⟩
    · rintro δ' μ' ⟨k, μ1, a, b, rfl, rfl, hF, hkl, hk1, hk2⟩
      rw [rng_length] at hkl hF
      have hkl' : k.length = 1 + r3 := by omega
      refine s_one <| s_ret <| x_tuple G T.tuple <| x_v G 3 ⟨k.map rowD, .own (show (μ1 ++ [M.ml (k.map rowD)])[μ.length]? = some (.ml (k.map rowD)) from by rw [← hF.len]; exact at_last), ?_⟩
      show R (.val _) ((μ1 ++ _).take μ.length)
      rw [List.take_left' hF.len]
      exact h k μ1 ⟨by omega, by omega, hk1, hk2⟩ (hF.mono (by omega))
abbrev s_law_moment : Stmt := top 78
theorem sc_law_moment : FnScope ["_law_feed_here", "_law_week_here", "_law_day"] ["_law_feed_here", "_law_week_here"] (defScope s_law_moment) := ⟨rfl, rfl, rfl, by decide +kernel, rfl, by decide +kernel, by decide +kernel⟩
def S_law_moment : SpecD := fun ws μ R => ∃ (j n : Nat) (k : List (List Str)), ws = [.own j, .val (weekD k)] ∧ FeedAt μ j n ∧ n + 2000 < 10 ^ 9 ∧ 1 ≤ k.length ∧ (∀ r ∈ k, r.length ≤ 1000) ∧ ∀ (d i : Int) μ', MomOk k d i → Fed μ μ' j (n + 3) → R (.val (mom d i)) μ'
theorem ok_law_moment {m : Mo} (T : Tops m) (F : Stands m "_law_moment" s_law_moment) (C1 : Callee m "_law_draw" 1 S_law_draw) (C2 : Callee m "_law_round" 1 S_law_round) : Callee m "_law_moment" 2 S_law_moment := by
  refine callee_of F sc_law_moment (ps := ["_law_feed_here", "_law_week_here"]) (fun ws μ R h => by obtain ⟨_, _, _, rfl, _⟩ := h; rfl) (fun _ _ _ _ _ _ us hl => match us, hl with | [_, _], _ => rfl) fun X hm G fx hr ws μ R h => ?_
  subst hm
  obtain ⟨j, n, k, rfl, hf, hn, hk, hkl, h⟩ := h
  have fin : ∀ (day : Int) (μ1 : List M), 1 ≤ day → day ≤ 1000000 → Fed μ μ1 j (n + 2) → WSs X [(defBody s_law_moment).getD 1 (.Pass ⟨0, 0, 0, 0⟩)] [some (.own j), some (.val (weekD k)), some (.val (.int day))] μ1 ⟨fun _ μ' => RetR μ.length R (.val .non) μ', RetR μ.length R, fun _ _ => False, fun _ _ => False⟩ := fun day μ1 d1 d2 hF => by
    have hl := hkl _ (rndOf_mem (k := k) (day := day) hk)
    refine s_one <| s_ret <| x_tup <| a_cons <| x_v G 2 <| a_cons <| x_call G C1 hr (by decide) <| a_cons <| x_v G 0 <| a_cons <| x_add <| x_len G T.len <| x_call G C2 hr (by decide) <| a_cons <| x_v G 1 <| a_cons <| x_v G 2 <| a_nil ⟨k, day, rfl, hk, (rndOf k day).map .str, .tup tupT, x_int <| ii <| a_nil ⟨j, n + 2, _, rfl, hF.at_, by omega, by rw [List.length_map]; omega, by rw [List.length_map]; omega, fun r μ2 hr2 hF2 => a_nil ⟨[.int day, .int r], rfl, (by show 2 ≤ 100000; decide), ?_⟩⟩⟩
    rw [List.length_map] at hr2
    have hF := hF.trans hF2
    exact ret_own hF (h day r μ2 ⟨d1, d2, by omega, by omega⟩ hF)
  refine s_cons <| s_set G 2 <| x_if <| t_gt <| x_call G C1 hr (by decide) <| a_cons <| x_v G 0 <| a_cons <| x_int <| a_nil ⟨j, n, 8, rfl, hf, by omega, by omega, by omega, fun r μ1 hr1 hF1 => x_int <| ii ⟨fun _ => ?_, fun _ => ?_⟩⟩
  · exact x_add <| x_int <| x_call G C1 hr (by decide) <| a_cons <| x_v G 0 <| a_cons <| x_int <| a_nil ⟨j, n + 1, 6, rfl, hF1.at_, by omega, by omega, by omega, fun r2 μ2 hr2 hF2 => ii <| fin _ μ2 (by omega) (by omega) (hF1.trans hF2)⟩
  · exact x_add <| x_int <| x_call G C1 hr (by decide) <| a_cons <| x_v G 0 <| a_cons <| x_int <| a_nil ⟨j, n + 1, 11, rfl, hF1.at_, by omega, by omega, by omega, fun r2 μ2 hr2 hF2 => ii <| fin _ μ2 (by omega) (by omega) (hF1.trans hF2)⟩
end DL
set_option Elab.async false
set_option linter.all false
set_option maxRecDepth 100000
set_option maxHeartbeats 1000000
set_option pp.maxSteps 250
/-! M2: a web made leaf by leaf is a tree. -/
namespace DL
open PySem
abbrev Rd3 := Str × Str × Str
structure TWp (ps : List Str) (rs : List Rd3) (π : Str → Str → List Str) : Prop where
  self : ∀ a ∈ ps, π a a = []
  edge : ∀ r ∈ rs, ∀ a ∈ ps, π a r.2.2 = π a r.2.1 ++ [r.1] ∨ π a r.2.1 = π a r.2.2 ++ [r.1]
  last : ∀ a ∈ ps, ∀ x ∈ ps, x ≠ a → ∃ r ∈ rs, ∃ y ∈ ps, ((r.2.1 = x ∧ r.2.2 = y) ∨ (r.2.1 = y ∧ r.2.2 = x)) ∧ π a x = π a y ++ [r.1]
  rev : ∀ a ∈ ps, ∀ b ∈ ps, π b a = (π a b).reverse
  len : ∀ a ∈ ps, ∀ b ∈ ps, (π a b).length < ps.length
  ends : ∀ r ∈ rs, r.2.1 ∈ ps ∧ r.2.2 ∈ ps
theorem TWp.tw {ps : List Str} {rs : List Rd3} {π : Str → Str → List Str} {w : Wb} (h : TWp ps rs π) (hp : w.ps.Perm ps) (hr : w.rs.Perm rs) : TW w π := by
  have p1 : ∀ {x}, x ∈ w.ps → x ∈ ps := fun h => hp.mem_iff.mp h
  have p2 : ∀ {x}, x ∈ ps → x ∈ w.ps := fun h => hp.mem_iff.mpr h
  refine ⟨fun a ha => h.self a (p1 ha), fun r hr' a ha => h.edge r (hr.mem_iff.mp hr') a (p1 ha), fun a ha x hx hn => ?_, fun a ha b hb => h.rev a (p1 ha) b (p1 hb), fun a ha b hb => by rw [hp.length_eq]; exact h.len a (p1 ha) b (p1 hb)⟩
  obtain ⟨r, h1, y, h2, h3, h4⟩ := h.last a (p1 ha) x (p1 hx) hn
  exact ⟨r, hr.mem_iff.mpr h1, y, p2 h2, h3, h4⟩
def FL (r : Rd3) (e : Str × Str) : Prop := r.2 = e ∨ r.2 = (e.2, e.1)
/-- a leaf x tied to y -/
def growW (π : Str → Str → List Str) (x y n : Str) (a b : Str) : List Str := if a = x then (if b = x then [] else n :: π y b) else if b = x then π a y ++ [n] else π a b
theorem TWp.grow {ps : List Str} {rs : List Rd3} {π : Str → Str → List Str} (h : TWp ps rs π) {x y : Str} {r : Rd3} (hx : x ∉ ps) (hy : y ∈ ps) (hr : FL r (x, y)) : TWp (x :: ps) (r :: rs) (growW π x y r.1) := by
  have nx : ∀ {z}, z ∈ ps → z ≠ x := fun hz e => hx (by rw [← e]; exact hz)
  have g0 : ∀ {a b}, a ∈ ps → b ∈ ps → growW π x y r.1 a b = π a b := fun ha hb => by unfold growW; rw [if_neg (nx ha), if_neg (nx hb)]
  have g1 : ∀ {b}, b ∈ ps → growW π x y r.1 x b = r.1 :: π y b := fun hb => by unfold growW; rw [if_pos rfl, if_neg (nx hb)]
  have g2 : ∀ {a}, a ∈ ps → growW π x y r.1 a x = π a y ++ [r.1] := fun ha => by unfold growW; rw [if_neg (nx ha), if_pos rfl]
  have g3 : growW π x y r.1 x x = [] := by unfold growW; rw [if_pos rfl, if_pos rfl]
  have mem : ∀ {z}, z ∈ x :: ps → z = x ∨ z ∈ ps := fun h => List.mem_cons.mp h
  have hxy : ((r.2.1 = x ∧ r.2.2 = y) ∨ (r.2.1 = y ∧ r.2.2 = x)) := by
    rcases hr with e | e
    · left; rw [e]; exact ⟨rfl, rfl⟩
    · right; rw [e]; exact ⟨rfl, rfl⟩
  refine ⟨fun a ha => ?_, fun r' hr' a ha => ?_, fun a ha z hz hn => ?_, fun a ha b hb => ?_, fun a ha b hb => ?_, fun r' hr' => ?_⟩
  · rcases mem ha with e | e
    · rw [e]; exact g3
    · rw [g0 e e]; exact h.self a e
  · rcases List.mem_cons.mp hr' with e | e
    · rw [e]
      -- the way to x ends with the way over y
      have key : growW π x y r.1 a x = growW π x y r.1 a y ++ [r.1] ∨ growW π x y r.1 a y = growW π x y r.1 a x ++ [r.1] := by
        rcases mem ha with e | e
        · right; rw [e, g1 hy, g3, h.self y hy]; rfl
        · left; rw [g2 e, g0 e hy]
      rcases hxy with ⟨a1, a2⟩ | ⟨a1, a2⟩
      · rw [a1, a2]; exact key.symm
      · rw [a1, a2]; exact key
    · have he := h.ends r' e
      rcases mem ha with q | q
      · rw [q, g1 he.1, g1 he.2]
        rcases h.edge r' e y hy with z | z
        · left; rw [z]; rfl
        · right; rw [z]; rfl
      · rw [g0 q he.1, g0 q he.2]; exact h.edge r' e a q
  · rcases mem ha with q | q
    · subst q
      have hz' := (mem hz).resolve_left hn
      by_cases e : z = y
      · refine ⟨r, List.mem_cons_self, a, List.mem_cons_self, ?_, ?_⟩
        · rw [e]; exact hxy.symm
        · rw [e, g1 hy, g3, h.self y hy]; rfl
      · obtain ⟨r', h1, u, h2, h3, h4⟩ := h.last y hy z hz' e
        exact ⟨r', List.mem_cons_of_mem _ h1, u, List.mem_cons_of_mem _ h2, h3, by rw [g1 hz', g1 h2, h4]; rfl⟩
    · rcases mem hz with e | e
      · refine ⟨r, List.mem_cons_self, y, List.mem_cons_of_mem _ hy, ?_, ?_⟩
        · rw [e]; exact hxy
        · rw [e, g2 q, g0 q hy]
      · obtain ⟨r', h1, u, h2, h3, h4⟩ := h.last a q z e hn
        exact ⟨r', List.mem_cons_of_mem _ h1, u, List.mem_cons_of_mem _ h2, h3, by rw [g0 q e, g0 q h2, h4]⟩
  · rcases mem ha with q | q <;> rcases mem hb with q' | q'
    · rw [q, q', g3]; rfl
    · rw [q, g2 q', g1 q', List.reverse_cons, ← h.rev y hy b q']
    · rw [q', g1 q, g2 q, List.reverse_append, ← h.rev a q y hy]; rfl
    · rw [g0 q q', g0 q' q]; exact h.rev a q b q'
  · rw [List.length_cons]
    rcases mem ha with q | q <;> rcases mem hb with q' | q'
    · rw [q, q', g3]; exact Nat.zero_lt_succ _
    · rw [q, g1 q', List.length_cons]; exact Nat.succ_lt_succ (h.len y hy b q')
    · rw [q', g2 q, List.length_append]; exact Nat.succ_lt_succ (h.len a q y hy)
    · rw [g0 q q']; exact Nat.lt_succ_of_lt (h.len a q b q')
  · rcases List.mem_cons.mp hr' with e | e
    · rw [e]
      rcases hxy with ⟨a1, a2⟩ | ⟨a1, a2⟩
      · rw [a1, a2]; exact ⟨List.mem_cons_self, List.mem_cons_of_mem _ hy⟩
      · rw [a1, a2]; exact ⟨List.mem_cons_of_mem _ hy, List.mem_cons_self⟩
    · exact ⟨List.mem_cons_of_mem _ (h.ends r' e).1, List.mem_cons_of_mem _ (h.ends r' e).2⟩
inductive TreeT : List Str → List (Str × Str) → Prop
  | one (p : Str) : TreeT [p] []
  | leaf {ps : List Str} {es : List (Str × Str)} {x y : Str} : TreeT ps es → x ∉ ps → y ∈ ps → TreeT (x :: ps) ((x, y) :: es)
inductive PairF : List Rd3 → List (Str × Str) → Prop
  | nil : PairF [] []
  | cons {r : Rd3} {e : Str × Str} {rs : List Rd3} {es : List (Str × Str)} : FL r e → PairF rs es → PairF (r :: rs) (e :: es)
theorem treeT_tw {ps : List Str} {es : List (Str × Str)} (h : TreeT ps es) : ∀ {rs : List Rd3}, PairF rs es → ∃ π, TWp ps rs π := by
  induction h with
  | one p =>
    intro rs hp
    cases hp
    refine ⟨fun _ _ => [], ⟨fun _ _ => rfl, fun _ h => (nomatch h), fun a ha x hx hn => ?_, fun _ _ _ _ => rfl, fun _ _ _ _ => Nat.zero_lt_one, fun _ h => (nomatch h)⟩⟩
    rw [List.mem_singleton.mp ha, List.mem_singleton.mp hx] at hn
    exact absurd rfl hn
  | leaf h hx hy ih =>
    intro rs hp
    cases hp with
    | cons hf hp =>
      obtain ⟨π, hπ⟩ := ih hp
      exact ⟨_, hπ.grow hx hy hf⟩
theorem pairF_perm {l1 l2 : List (Str × Str)} (h : l1.Perm l2) : ∀ {rs : List Rd3}, PairF rs l1 → ∃ rs' : List Rd3, rs'.Perm rs ∧ PairF rs' l2 := by
  induction h with
  | nil => intro rs hp; exact ⟨rs, .refl _, hp⟩
  | cons x h ih =>
    intro rs hp
    cases hp with
    | cons hf hp =>
      obtain ⟨rs', h1, h2⟩ := ih hp
      exact ⟨_ :: rs', h1.cons _, .cons hf h2⟩
  | swap x y l =>
    intro rs hp
    cases hp with
    | cons hf hp =>
      cases hp with
      | cons hf' hp => exact ⟨_ :: _ :: _, .swap _ _ _, .cons hf' (.cons hf hp)⟩
  | trans h1 h2 ih1 ih2 =>
    intro rs hp
    obtain ⟨rs', q1, q2⟩ := ih1 hp
    obtain ⟨rs2, q3, q4⟩ := ih2 q2
    exact ⟨rs2, q3.trans q1, q4⟩
/-- the web of a tree's ties, mixed, turned, named -/
theorem tree_web {w : Wb} {names : List Str} {ties ties1 : List (Str × Str)} (ht : TreeT names.reverse ties.reverse) (hm : ties1.Perm ties) (hf : PairF w.rs ties1) (hp : w.ps.Perm names) : ∃ π, TW w π := by
  obtain ⟨rs', h1, h2⟩ := pairF_perm (hm.trans ties.reverse_perm.symm) hf
  obtain ⟨π, hπ⟩ := treeT_tw ht h2
  exact ⟨π, hπ.tw (hp.trans names.reverse_perm.symm) h1.symm⟩
end DL
set_option Elab.async false
set_option linter.all false
set_option maxRecDepth 100000
set_option maxHeartbeats 1000000
set_option pp.maxSteps 250
/-! M3: news over a tree with one round. -/
namespace DL
open PySem
def nxt (m : Int × Int) (r : Nat) : Int × Int := if m.2 ≤ (r : Int) then (m.1, (r : Int) + 1) else (m.1 + 1, (r : Int) + 1)
def rk (rt : List Str) (n : Str) : Nat := rt.idxOf n
def Fm (rt : List Str) (π : Str → Str → List Str) (a x : Str) : Int × Int := (π a x).foldl (fun m n => nxt m (rk rt n)) (1, 0)
def lle (m : Int × Int) (d i : Int) : Prop := m.1 < d ∨ (m.1 = d ∧ m.2 ≤ i)
theorem nodup_all {xs ys : List Str} (h1 : xs.Nodup) (h2 : ∀ x ∈ xs, x ∈ ys) (h3 : ys.length ≤ xs.length) : ∀ y ∈ ys, y ∈ xs := fun y hy => Classical.byContradiction fun hn => by
  have := nodup_sub_len (xs := y :: xs) (ys := ys) (List.nodup_cons.mpr ⟨hn, h1⟩) fun z hz => by
    rcases List.mem_cons.mp hz with e | e
    · rw [e]; exact hy
    · exact h2 z e
  rw [List.length_cons] at this
  omega
section
variable {w : Wb} {π : Str → Str → List Str} {rt : List Str} {a : Str}
theorem fm_self (t : TW w π) (ha : a ∈ w.ps) : Fm rt π a a = (1, 0) := by unfold Fm; rw [t.self a ha]; rfl
theorem fm_snoc {x y n : Str} (h : π a x = π a y ++ [n]) : Fm rt π a x = nxt (Fm rt π a y) (rk rt n) := by
  unfold Fm
  rw [h, List.foldl_append]
  rfl
theorem fold_lo : ∀ (l : List Str) (m : Int × Int), 1 ≤ m.1 → 1 ≤ (l.foldl (fun m n => nxt m (rk rt n)) m).1
  | [], _, h => h
  | n :: l, m, h => by
    refine fold_lo l (nxt m (rk rt n)) ?_
    unfold nxt
    split <;> simp <;> omega
theorem fm_day (x : Str) : 1 ≤ (Fm rt π a x).1 := fold_lo _ _ (Int.le_refl _)
theorem nxt_gt (m : Int × Int) (r : Nat) : ¬ lle (nxt m r) m.1 m.2 := by
  unfold nxt lle
  split <;> simp <;> omega
structure Rota (w : Wb) (rt : List Str) : Prop where
  p : rt.Perm (w.rs.map (·.1))
  nd : rt.Nodup
theorem rk_get (hr : Rota w rt) {i : Nat} {n : Str} (h : rt[i]? = some n) : rk rt n = i := by
  obtain ⟨hi, e⟩ := List.getElem?_eq_some_iff.mp h
  unfold rk
  rw [← e]
  exact List.Nodup.idxOf_getElem hr.nd i hi
theorem rk_lt (hr : Rota w rt) {n : Str} (h : n ∈ rt) : rk rt n < rt.length ∧ rt[rk rt n]? = some n := by
  have h1 : rk rt n < rt.length := List.idxOf_lt_length_of_mem h
  exact ⟨h1, by rw [List.getElem?_eq_getElem h1]; exact congrArg some (List.getElem_idxOf h1)⟩
theorem rk_inj (hr : Rota w rt) {n n' : Str} (h : n ∈ rt) (h' : n' ∈ rt) (e : rk rt n = rk rt n') : n = n' := by
  have h1 := (rk_lt hr h).2
  have h2 := (rk_lt hr h').2
  rw [e, h2] at h1
  exact (Option.some.inj h1).symm
theorem name_in (hr : Rota w rt) {r : Rd3} (h : r ∈ w.rs) : r.1 ∈ rt := hr.p.mem_iff.mpr (List.mem_map.mpr ⟨r, h, rfl⟩)
/-- the second of a time is at most the number of roads; it is 0 at the start alone -/
theorem fm_idx (ok : WOk w) (t : TW w π) (hr : Rota w rt) (ha : a ∈ w.ps) {x : Str} (hx : x ∈ w.ps) (hn : x ≠ a) : ∃ r ∈ w.rs, ∃ y ∈ w.ps, ((r.2.1 = x ∧ r.2.2 = y) ∨ (r.2.1 = y ∧ r.2.2 = x)) ∧ π a x = π a y ++ [r.1] ∧ Fm rt π a x = nxt (Fm rt π a y) (rk rt r.1) ∧ (Fm rt π a x).2 = (rk rt r.1 : Int) + 1 ∧ rk rt r.1 < rt.length := by
  obtain ⟨r, h1, y, h2, h3, h4⟩ := t.last a ha x hx hn
  have h5 := fm_snoc (rt := rt) h4
  refine ⟨r, h1, y, h2, h3, h4, h5, ?_, (rk_lt hr (name_in hr h1)).1⟩
  rw [h5]
  unfold nxt
  split <;> rfl
/-- what is found at (d, i) -/
structure AInv (w : Wb) (rt : List Str) (π : Str → Str → List Str) (a : Str) (d i : Int) (f : Fnd) : Prop where
  fin : FIn w f
  key : ∀ x ∈ w.ps, x ∈ f.map Prod.fst ↔ lle (Fm rt π a x) d i
  val : ∀ x ∈ f.map Prod.fst, kget f x = some (Fm rt π a x)
theorem ainv_step (ok : WOk w) (t : TW w π) (hr : Rota w rt) (ha : a ∈ w.ps) {d : Int} {i : Nat} {n : Str} (hi : rt[i]? = some n) {f : Fnd} (h : AInv w rt π a d i f) : AInv w rt π a d (i + 1) (stepA w d 0 i n f) := by
  have hnr : n ∈ w.rs.map (·.1) := hr.p.mem_iff.mp (List.mem_of_getElem? hi)
  obtain ⟨r, hrr, rfl⟩ := List.mem_map.mp hnr
  have hri := rk_get hr hi
  have hE := endOf_road ok.rn hrr
  have hrk := ok.rok r hrr
  have hfin := stepA_in ok (day := d) (first := 0) (i := i) hnr h.fin
  -- near and far
  obtain ⟨u, v, hu, hv, huv, hF⟩ : ∃ u v, u ∈ w.ps ∧ v ∈ w.ps ∧ ((u = r.2.1 ∧ v = r.2.2) ∨ (u = r.2.2 ∧ v = r.2.1)) ∧ Fm rt π a v = nxt (Fm rt π a u) i := by
    rcases t.edge r hrr a ha with e | e
    · exact ⟨r.2.1, r.2.2, hrk.2.1, hrk.2.2.1, .inl ⟨rfl, rfl⟩, by rw [fm_snoc e, hri]⟩
    · exact ⟨r.2.2, r.2.1, hrk.2.2.1, hrk.2.1, .inr ⟨rfl, rfl⟩, by rw [fm_snoc e, hri]⟩
  have hx : ∀ x, x ∈ w.ps → Fm rt π a x = (d, (i : Int) + 1) → x = v := fun x hx hxe => by
    have hxa : x ≠ a := fun e => by
      rw [e, fm_self t ha] at hxe
      have := congrArg Prod.snd hxe
      simp at this
      omega
    obtain ⟨r', h1, y, h2, h3, h4, h5, h6, _⟩ := fm_idx ok t hr ha hx hxa
    rw [hxe] at h6
    have e1 : rk rt r'.1 = i := by simp at h6; omega
    have e2 : r'.1 = r.1 := rk_inj hr (name_in hr h1) (name_in hr hrr) (e1.trans hri.symm)
    have e3 := road_one ok h1 hrr e2
    subst e3
    have hcase : (x = v ∧ y = u) ∨ (x = u ∧ y = v) := by
      rcases huv with ⟨a1, a2⟩ | ⟨a1, a2⟩ <;> rcases h3 with ⟨b1, b2⟩ | ⟨b1, b2⟩
      · exact .inr ⟨by rw [a1, b1], by rw [a2, b2]⟩
      · exact .inl ⟨by rw [a2, b2], by rw [a1, b1]⟩
      · exact .inl ⟨by rw [a2, b1], by rw [a1, b2]⟩
      · exact .inr ⟨by rw [a1, b2], by rw [a2, b1]⟩
    rcases hcase with ⟨e, _⟩ | ⟨e, e'⟩
    · exact e
    · exfalso
      rw [e1, e'] at h5
      rw [e] at h5
      have g1 := nxt_gt (Fm rt π a u) i
      have g2 := nxt_gt (Fm rt π a v) i
      rw [← hF] at g1
      rw [← h5] at g2
      unfold lle at g1 g2
      omega
  have hmono : ∀ x ∈ w.ps, lle (Fm rt π a x) d ((i : Int) + 1) ↔ (lle (Fm rt π a x) d i ∨ Fm rt π a x = (d, (i : Int) + 1)) := fun x _ => by
    generalize Fm rt π a x = mm
    obtain ⟨p, q⟩ := mm
    unfold lle
    simp only [Prod.mk.injEq]
    omega
  have hcross : (lle (Fm rt π a u) d i ∧ ¬ lle (Fm rt π a v) d i) ↔ Fm rt π a v = (d, (i : Int) + 1) := by
    rw [hF]
    generalize Fm rt π a u = mm
    obtain ⟨p, q⟩ := mm
    by_cases hq : q ≤ (i : Int)
    · rw [show nxt (p, q) i = (p, (i : Int) + 1) from if_pos hq, Prod.mk.injEq]
      unfold lle
      simp only
      refine ⟨fun z => ?_, fun z => ⟨?_, ?_⟩⟩
      · obtain ⟨z1, z2⟩ := z
        refine ⟨?_, trivial⟩
        omega
      · omega
      · omega
    · rw [show nxt (p, q) i = (p + 1, (i : Int) + 1) from if_neg hq, Prod.mk.injEq]
      unfold lle
      simp only
      refine ⟨fun z => ?_, fun z => ⟨?_, ?_⟩⟩
      · obtain ⟨z1, z2⟩ := z
        refine ⟨?_, trivial⟩
        omega
      · omega
      · omega
  have hback : lle (Fm rt π a v) d i → lle (Fm rt π a u) d i := by
    rw [hF]
    generalize Fm rt π a u = mm
    obtain ⟨p, q⟩ := mm
    by_cases hq : q ≤ (i : Int)
    · rw [show nxt (p, q) i = (p, (i : Int) + 1) from if_pos hq]
      unfold lle
      simp only
      omega
    · rw [show nxt (p, q) i = (p + 1, (i : Int) + 1) from if_neg hq]
      unfold lle
      simp only
      omega
  have ku := khas_iff (k := u) (ds := f)
  have kv := khas_iff (k := v) (ds := f)
  rw [h.key u hu] at ku
  rw [h.key v hv] at kv
  by_cases hc : Fm rt π a v = (d, (i : Int) + 1)
  · obtain ⟨c1, c2⟩ := hcross.mpr hc
    have vnew : v ∉ f.map Prod.fst := fun z => c2 ((h.key v hv).mp z)
    have hu1 : khas f u = true := ku.mpr c1
    have hv1 : khas f v = false := by
      cases e : khas f v with
      | false => rfl
      | true => exact absurd (kv.mp e) c2
    have est : stepA w d 0 i r.1 f = f ++ [(v, (d, (i : Int) + 1))] := by
      unfold stepA
      rw [hE]
      rcases huv with ⟨a1, a2⟩ | ⟨a1, a2⟩
      · rw [← a1, ← a2, hu1, hv1, if_pos ⟨by omega, by decide⟩, if_pos rfl, kput_new vnew]
      · rw [← a1, ← a2, hu1, hv1, if_pos ⟨by omega, by decide⟩, if_neg Bool.false_ne_true, kput_new vnew]
    refine ⟨hfin, fun x hxp => ?_, fun x hxk => ?_⟩
    · rw [hmono x hxp, est, List.map_append, List.mem_append, h.key x hxp]
      refine or_congr_right ⟨fun z => by rw [List.mem_singleton.mp z]; exact hc, fun z => by rw [hx x hxp z]; exact List.mem_singleton.mpr rfl⟩
    · rw [est] at hxk ⊢
      rw [kget_app vnew]
      by_cases e : x = v
      · rw [if_pos e, e, hc]
      · rw [if_neg e]
        rw [List.map_append] at hxk
        rcases List.mem_append.mp hxk with z | z
        · exact h.val x z
        · exact absurd (List.mem_singleton.mp z) e
  · have est : stepA w d 0 i r.1 f = f := by
      unfold stepA
      rw [hE, if_neg]
      rintro ⟨_, q⟩
      have hne : khas f u ≠ khas f v := by
        rcases huv with ⟨a1, a2⟩ | ⟨a1, a2⟩
        · rw [a1, a2]; exact q
        · rw [a1, a2]; exact q.symm
      apply hc
      apply hcross.mp
      by_cases z : lle (Fm rt π a v) d i
      · exact absurd ((ku.mpr (hback z)).trans (kv.mpr z).symm) hne
      · refine ⟨?_, z⟩
        refine Classical.byContradiction fun z2 => hne ?_
        cases e1 : khas f u with
        | true => exact absurd (ku.mp e1) z2
        | false =>
          cases e2 : khas f v with
          | true => exact absurd (kv.mp e2) z
          | false => rfl
    refine ⟨hfin, fun x hxp => ?_, fun x hxk => ?_⟩
    · rw [hmono x hxp, est, h.key x hxp]
      exact ⟨.inl, fun z => z.resolve_right fun z => hc (by rw [hx x hxp z] at z; exact z)⟩
    · rw [est] at hxk ⊢
      exact h.val x hxk
theorem ainv_go (ok : WOk w) (t : TW w π) (hr : Rota w rt) (ha : a ∈ w.ps) {d : Int} {f : Fnd} (h : AInv w rt π a d 0 f) : ∀ n, n ≤ rt.length → AInv w rt π a d n (goA w d 0 0 (rt.take n) f)
  | 0, _ => h
  | n + 1, hn => by
    have hg : rt[n]? = some rt[n] := List.getElem?_eq_getElem (by omega)
    rw [getElem?_take_succ hg, goA_snoc, List.length_take, Nat.min_eq_left (by omega), Nat.zero_add]
    have := ainv_step ok t hr ha hg (ainv_go ok t hr ha h n (by omega))
    push_cast
    exact this
theorem ainv_day (ok : WOk w) (t : TW w π) (hr : Rota w rt) (ha : a ∈ w.ps) {d : Int} (hd : 1 ≤ d) {f : Fnd} (h : AInv w rt π a d rt.length f) : AInv w rt π a (d + 1) 0 f := by
  refine ⟨h.fin, fun x hx => ?_, h.val⟩
  rw [h.key x hx]
  by_cases e : x = a
  · rw [e, fm_self t ha]
    unfold lle
    simp only
    omega
  · obtain ⟨r, _, y, _, _, _, _, h6, h7⟩ := fm_idx ok t hr ha hx e
    unfold lle
    omega
theorem ainv_st (ok : WOk w) (t : TW w π) (hr : Rota w rt) (ha : a ∈ w.ps) : ∀ s : Nat, AInv w rt π a (1 + s) 0 (stA w [rt] a 1 0 s).2.2 ∧ (stA w [rt] a 1 0 s).2.1 = 0
  | 0 => by
    refine ⟨⟨⟨by simp [stA], fun x hx => ?_⟩, fun x hx => ?_, fun x hx => ?_⟩, rfl⟩
    · have : x = a := by simpa [stA] using hx
      rw [this]; exact ha
    · by_cases e : x = a
      · rw [e, fm_self t ha]
        simp [stA, lle]
      · obtain ⟨r, _, y, _, _, _, _, h6, _⟩ := fm_idx ok t hr ha hx e
        have h1 := fm_day (rt := rt) (π := π) (a := a) x
        have : x ∉ (stA w [rt] a 1 0 0).2.2.map Prod.fst := by simpa [stA] using e
        refine ⟨fun z => absurd z this, fun z => ?_⟩
        unfold lle at z
        push_cast at z
        omega
    · have : x = a := by simpa [stA] using hx
      rw [this, fm_self t ha]
      simp [stA, kget]
  | s + 1 => by
    obtain ⟨h1, h2⟩ := ainv_st ok t hr ha s
    refine ⟨?_, rfl⟩
    have hd := stA_day w [rt] a 1 0 s
    show AInv w rt π a _ 0 (goA w (stA w [rt] a 1 0 s).1 (stA w [rt] a 1 0 s).2.1 0 (rndOf [rt] (stA w [rt] a 1 0 s).1) (stA w [rt] a 1 0 s).2.2)
    rw [h2, hd, show rndOf [rt] (1 + (s : Int)) = rt by unfold rndOf; simp [Int.emod_one]]
    have := ainv_go ok t hr ha h1 rt.length (Nat.le_refl _)
    rw [List.take_length] at this
    have := ainv_day ok t hr ha (by omega) this
    rw [show (1 : Int) + ((s + 1 : Nat) : Int) = 1 + s + 1 by push_cast; omega]
    exact this
theorem newsOk_ex' {w : Wb} {k : List (List Str)} (ok : WOk w) (kk : KOk w k) {p : Str} (hp : p ∈ w.ps) : ∃ N, NewsOk w k p N := by
  have key : ∀ (n : Nat) (N : List Str), N.Nodup → p ∈ N → (∀ x ∈ N, x ∈ w.ps) → (∀ S : Str → Prop, S p → (∀ e ∈ wkE w k, S e.1 ↔ S e.2) → ∀ x ∈ N, S x) → 10 ≤ N.length + n → ∃ N, NewsOk w k p N := by
    intro n
    induction n with
    | zero =>
      intro N h1 h2 h3 h4 h5
      refine ⟨N, h1, h2, swp_closed (E := wkE w k) ?_, h4⟩
      obtain ⟨t, ht⟩ := swp_app (wkE w k) N
      have hl := congrArg List.length ht
      rw [List.length_append] at hl
      have h6 := nodup_sub_len (swp_nodup (E := wkE w k) h1) (swp_keeps (S := (· ∈ w.ps)) (fun e he => ⟨fun _ => (wkE_in ok kk he).2, fun _ => (wkE_in ok kk he).1⟩) h3)
      have := ok.pm
      omega
    | succ n ih =>
      intro N h1 h2 h3 h4 h5
      by_cases hl : (swp (wkE w k) N).length = N.length
      · exact ⟨N, h1, h2, swp_closed hl, h4⟩
      · obtain ⟨t, ht⟩ := swp_app (wkE w k) N
        have hl' := congrArg List.length ht
        rw [List.length_append] at hl'
        exact ih (swp (wkE w k) N) (swp_nodup h1) (by rw [ht]; exact List.mem_append_left _ h2) (swp_keeps (S := (· ∈ w.ps)) (fun e he => ⟨fun _ => (wkE_in ok kk he).2, fun _ => (wkE_in ok kk he).1⟩) h3) (fun S a b => swp_keeps b (h4 S a b)) (by omega)
  exact key 10 [p] (by simp) (by simp) (fun x hx => by rw [List.mem_singleton.mp hx]; exact hp) (fun S a _ x hx => by rw [List.mem_singleton.mp hx]; exact a) (by omega)
/-- what arrives over a tree -/
theorem arr_tree (ok : WOk w) (t : TW w π) (hr : Rota w rt) (ha : a ∈ w.ps) (kk : KOk w [rt]) : ∀ x ∈ w.ps, kget (arrF w [rt] a 1 0) x = some (Fm rt π a x) := by
  obtain ⟨N, hN⟩ := newsOk_ex' ok kk ha
  obtain ⟨T, hT, h1, _⟩ := isArr_ex (d := 1) (i := 0) hN
  rw [arrF_eq hT]
  obtain ⟨h2, _⟩ := ainv_st ok t hr ha T
  have hall : ∀ x ∈ w.ps, x ∈ N := t.all (S := (· ∈ N)) ha hN.at_ fun r hrr => hN.closed r.2 (by
    unfold wkE
    refine List.mem_flatMap.mpr ⟨rt, List.mem_singleton.mpr rfl, List.mem_map.mpr ⟨r.1, name_in hr hrr, endOf_road ok.rn hrr⟩⟩)
  have hl := nodup_sub_len ok.pn hall
  have := nodup_all h2.fin.1 h2.fin.2 (by rw [List.length_map]; omega)
  exact fun x hx => h2.val x (this x hx)
end
end DL
set_option Elab.async false
set_option linter.all false
set_option maxRecDepth 100000
set_option maxHeartbeats 1000000
set_option pp.maxSteps 250
/-! M4: there and back. -/
namespace DL
open PySem
def fallsF : Int → List Nat → Int
  | _, [] => 0
  | i, r :: l => (if i ≤ (r : Int) then 0 else 1) + fallsF ((r : Int) + 1) l
theorem fold_day : ∀ (l : List Nat) (m : Int × Int), (l.foldl nxt m).1 = m.1 + fallsF m.2 l
  | [], m => by simp [fallsF]
  | r :: l, m => by
    show (l.foldl nxt (nxt m r)).1 = m.1 + ((if m.2 ≤ (r : Int) then 0 else 1) + fallsF ((r : Int) + 1) l)
    rw [fold_day l]
    unfold nxt
    split <;> (simp only; omega)
theorem fallsF_snoc (y x : Nat) : ∀ (l : List Nat) (i : Int), fallsF i (l ++ [y] ++ [x]) = fallsF i (l ++ [y]) + (if (y : Int) + 1 ≤ x then 0 else 1)
  | [], i => by simp [fallsF]
  | z :: l, i => by
    show _ + fallsF ((z : Int) + 1) (l ++ [y] ++ [x]) = _ + fallsF ((z : Int) + 1) (l ++ [y]) + _
    rw [fallsF_snoc y x l]
    omega
def AdjNe : List Nat → Prop
  | x :: y :: l => x ≠ y ∧ AdjNe (y :: l)
  | _ => True
theorem falls_both : ∀ (l : List Nat), l ≠ [] → AdjNe l → fallsF 0 l + fallsF 0 l.reverse + 1 = l.length
  | [x], _, _ => by simp [fallsF]
  | x :: y :: l, _, h => by
    have ih := falls_both (y :: l) (by simp) h.2
    have e1 : fallsF 0 (x :: y :: l) = (if (x : Int) + 1 ≤ y then 0 else 1) + fallsF 0 (y :: l) := by
      show (if (0 : Int) ≤ x then 0 else 1) + ((if (x : Int) + 1 ≤ y then 0 else 1) + fallsF ((y : Int) + 1) l) = _ + ((if (0 : Int) ≤ y then 0 else 1) + fallsF ((y : Int) + 1) l)
      rw [if_pos (by omega), if_pos (show (0 : Int) ≤ y by omega)]
      omega
    have e2 : fallsF 0 (x :: y :: l).reverse = fallsF 0 (y :: l).reverse + (if (y : Int) + 1 ≤ x then 0 else 1) := by
      rw [List.reverse_cons, List.reverse_cons]
      exact fallsF_snoc y x l.reverse 0
    rw [e1, e2, List.length_cons]
    have hne := h.1
    push_cast
    rcases Nat.lt_or_gt_of_ne hne with z | z
    · rw [if_pos (show (x : Int) + 1 ≤ y by omega), if_neg (show ¬ (y : Int) + 1 ≤ x by omega)]
      omega
    · rw [if_neg (show ¬ (x : Int) + 1 ≤ y by omega), if_pos (show (y : Int) + 1 ≤ x by omega)]
      omega
theorem falls_le : ∀ (l : List Nat) (i : Int), 0 ≤ fallsF i l ∧ fallsF i l ≤ l.length
  | [], _ => by simp [fallsF]
  | r :: l, i => by
    have := falls_le l ((r : Int) + 1)
    show 0 ≤ (if i ≤ (r : Int) then 0 else 1) + fallsF ((r : Int) + 1) l ∧ (if i ≤ (r : Int) then 0 else 1) + fallsF ((r : Int) + 1) l ≤ _
    rw [List.length_cons]
    push_cast
    split <;> omega
section
variable {w : Wb} {π : Str → Str → List Str} {rt : List Str}
theorem fm_falls (a b : Str) : (Fm rt π a b).1 = 1 + fallsF 0 ((π a b).map (rk rt)) := by
  unfold Fm
  rw [← fold_day _ (1, 0), List.foldl_map]
theorem adj_snoc : ∀ (l : List Nat) (x : Nat), AdjNe l → (∀ y, l.getLast? = some y → y ≠ x) → AdjNe (l ++ [x])
  | [], _, _, _ => trivial
  | [y], x, _, h => ⟨h y rfl, trivial⟩
  | y :: z :: l, x, h1, h2 => ⟨h1.1, adj_snoc (z :: l) x h1.2 fun u hu => h2 u (by rw [List.getLast?_cons_cons]; exact hu)⟩
theorem way_adj (ok : WOk w) (t : TW w π) (hr : Rota w rt) {a : Str} (ha : a ∈ w.ps) : ∀ n, ∀ x ∈ w.ps, (π a x).length ≤ n → AdjNe ((π a x).map (rk rt))
  | 0, x, _, hl => by
    rw [List.length_eq_zero_iff.mp (Nat.le_zero.mp hl)]
    trivial
  | n + 1, x, hx, hl => by
    by_cases e : x = a
    · rw [e, t.self a ha]; trivial
    · obtain ⟨r, h1, y, h2, h3, h4⟩ := t.last a ha x hx e
      rw [h4, List.map_append]
      rw [h4, List.length_append, List.length_singleton] at hl
      refine adj_snoc _ _ (way_adj ok t hr ha n y h2 (by omega)) fun m hm => ?_
      by_cases e' : y = a
      · rw [e', t.self a ha] at hm; cases hm
      · obtain ⟨r', g1, z, g2, g3, g4⟩ := t.last a ha y h2 e'
        rw [g4, List.map_append, List.map_singleton, List.getLast?_concat] at hm
        cases hm
        intro er
        have e1 := rk_inj hr (name_in hr g1) (name_in hr h1) er
        have e2 := road_one ok g1 h1 e1
        subst e2
        have hne := (ok.rok r' g1).2.2.2
        have ezx : z = x := by
          rcases h3 with ⟨a1, a2⟩ | ⟨a1, a2⟩ <;> rcases g3 with ⟨b1, b2⟩ | ⟨b1, b2⟩
          · exact absurd (b1.trans a2.symm) hne
          · exact b1.symm.trans a1
          · exact b2.symm.trans a2
          · exact absurd (a1.trans b2.symm) hne
        rw [ezx] at g4
        rw [g4, List.append_assoc] at h4
        have := congrArg List.length h4
        simp at this
/-- there and back: the length of the way and one -/
theorem there_back (ok : WOk w) (t : TW w π) (hr : Rota w rt) {a b : Str} (ha : a ∈ w.ps) (hb : b ∈ w.ps) (hn : a ≠ b) : (Fm rt π a b).1 + (Fm rt π b a).1 = (π a b).length + 1 := by
  have hne : π a b ≠ [] := fun z => by
    obtain ⟨r, _, y, _, _, h⟩ := t.last a ha b hb (Ne.symm hn)
    rw [h] at z
    simp at z
  have h1 := falls_both ((π a b).map (rk rt)) (by simpa using hne) (way_adj ok t hr ha _ b hb (Nat.le_refl _))
  rw [fm_falls, fm_falls, t.rev a ha b hb, List.map_reverse]
  rw [List.length_map] at h1
  omega
theorem fm_le (ok : WOk w) (t : TW w π) {a b : Str} (ha : a ∈ w.ps) (hb : b ∈ w.ps) : (Fm rt π a b).1 ≤ 10 := by
  rw [fm_falls]
  have h1 := (falls_le ((π a b).map (rk rt)) 0).2
  have h2 := t.len a ha b hb
  have h3 := ok.pm
  rw [List.length_map] at h1
  omega
end
end DL
set_option Elab.async false
set_option linter.all false
set_option maxRecDepth 100000
set_option maxHeartbeats 400000
set_option pp.maxSteps 250
/-! M5: a web from names, ties, roads. -/
namespace DL
open PySem PySem.Spec PyProof.Rows L2
def tieD (e : Str × Str) : D := .tup [.str e.1, .str e.2]
structure TieOk (zs : List Str) (e : Str × Str) : Prop where
  a : e.1 ∈ zs
  b : e.2 ∈ zs
  n : e.1 ≠ e.2
def FlE (e' e : Str × Str) : Prop := e' = e ∨ e' = (e.2, e.1)
def FlL (ts ys : List (Str × Str)) : Prop := ∀ (q : Nat) e', ts[q]? = some e' → ∃ e, ys[q]? = some e ∧ FlE e' e
def rdsZ (rds : List Str) (ts : List (Str × Str)) : List Rd3 := rds.zipWith (fun a e => (a, e)) ts
theorem pairF_of : ∀ (rds : List Str) (ts ys : List (Str × Str)), rds.length = ts.length → ts.length = ys.length → FlL ts ys → PairF (rdsZ rds ts) ys
  | [], [], [], _, _, _ => .nil
  | a :: rds, e :: ts, y :: ys, h1, h2, h => by
    obtain ⟨e1, h3, h4⟩ := h 0 e rfl
    cases h3
    refine .cons (r := (a, e)) h4 (pairF_of rds ts ys (Nat.succ.inj h1) (Nat.succ.inj h2) fun q e' hq => ?_)
    exact h (q + 1) e' hq
  | [], _ :: _, _, h1, _, _ => by cases h1
  | _ :: _, [], _, h1, _, _ => by cases h1
  | [], [], _ :: _, _, h2, _ => by cases h2
  | _ :: _, _ :: _, [], _, h2, _ => by cases h2
theorem rdsZ_len {rds : List Str} {ts : List (Str × Str)} (h : rds.length = ts.length) : (rdsZ rds ts).length = ts.length := by
  unfold rdsZ
  rw [List.length_zipWith, h, Nat.min_self]
theorem rdsZ_names : ∀ (rds : List Str) (ts : List (Str × Str)), rds.length = ts.length → (rdsZ rds ts).map (·.1) = rds
  | [], [], _ => rfl
  | a :: rds, e :: ts, h => by
    show a :: _ = _
    rw [show (List.zipWith (fun a e => (a, e)) rds ts) = rdsZ rds ts from rfl, rdsZ_names rds ts (Nat.succ.inj h)]
  | [], _ :: _, h => by cases h
  | _ :: _, [], h => by cases h
theorem rdsZ_mem : ∀ (rds : List Str) (ts : List (Str × Str)) (r : Rd3), r ∈ rdsZ rds ts → r.1 ∈ rds ∧ r.2 ∈ ts
  | [], _, _, h => by cases h
  | _ :: _, [], _, h => by cases h
  | a :: rds, e :: ts, r, h => by
    rcases List.mem_cons.mp h with z | z
    · rw [z]; exact ⟨List.mem_cons_self, List.mem_cons_self⟩
    · have := rdsZ_mem rds ts r z
      exact ⟨List.mem_cons_of_mem _ this.1, List.mem_cons_of_mem _ this.2⟩
theorem wok_of {zs ps rds : List Str} {ts : List (Str × Str)} (h1 : zs.Nodup) (h2 : ∀ z ∈ zs, NameOk z) (h3 : 1 ≤ zs.length) (h4 : zs.length ≤ 10) (hp : ps.Perm zs) (h5 : rds.Nodup) (h6 : ∀ z ∈ rds, NameOk z) (h7 : rds.length = ts.length) (h8 : ts.length ≤ 14) (h9 : ∀ e ∈ ts, TieOk zs e) : WOk ⟨ps, rdsZ rds ts⟩ := by
  refine ⟨hp.nodup_iff.mpr h1, fun p hq => h2 p (hp.mem_iff.mp hq), by show 1 ≤ ps.length; rw [hp.length_eq]; exact h3, by show ps.length ≤ 10; rw [hp.length_eq]; exact h4, by show (rdsZ rds ts).length ≤ 14; rw [rdsZ_len h7]; exact h8, by show ((rdsZ rds ts).map (·.1)).Nodup; rw [rdsZ_names _ _ h7]; exact h5, fun r hr => ?_⟩
  have hm := rdsZ_mem _ _ _ hr
  have ht := h9 _ hm.2
  exact ⟨h6 _ hm.1, hp.mem_iff.mpr ht.a, hp.mem_iff.mpr ht.b, ht.n⟩
theorem flE_ok {zs : List Str} {e e' : Str × Str} (h : FlE e' e) (k : TieOk zs e) : TieOk zs e' := by
  rcases h with z | z
  · rw [z]; exact k
  · rw [z]; exact ⟨k.b, k.a, fun q => k.n q.symm⟩
theorem flL_snoc {ts ys : List (Str × Str)} {i : Nat} {e e' : Str × Str} (h : FlL ts ys) (hl : ts.length = i) (hy : ys[i]? = some e) (he : FlE e' e) : FlL (ts ++ [e']) ys := fun q e2 hq => by
  by_cases hlt : q < ts.length
  · rw [List.getElem?_append_left hlt] at hq
    exact h q e2 hq
  · rw [List.getElem?_append_right (by omega)] at hq
    have hq0 : q - ts.length = 0 := by
      cases h0 : q - ts.length with
      | zero => rfl
      | succ m => rw [h0] at hq; cases hq
    rw [hq0] at hq
    cases hq
    exact ⟨e, by rw [show q = i by omega]; exact hy, he⟩
theorem treeT_len {ps : List Str} {es : List (Str × Str)} (h : TreeT ps es) : ps.length = es.length + 1 := by
  induction h with
  | one => rfl
  | leaf h _ _ ih => rw [List.length_cons, List.length_cons, ih]
/-- the next leaf -/
theorem tree_next {zs : List Str} {ts : List (Str × Str)} {i b : Nat} {x y : Str} (hn : zs.Nodup) (hx : zs[i + 1]? = some x) (hy : zs[b]? = some y) (hb : b ≤ i) (h : TreeT (zs.take (i + 1)).reverse ts.reverse) : TreeT (zs.take (i + 1 + 1)).reverse (ts ++ [(x, y)]).reverse := by
  have hx' := List.getElem?_eq_some_iff.mp hx
  have hy' := List.getElem?_eq_some_iff.mp hy
  rw [List.take_add_one, hx, Option.toList, List.reverse_append, List.reverse_append]
  refine .leaf h ?_ ?_
  · show x ∉ (zs.take (i + 1)).reverse
    rw [List.mem_reverse]
    intro hm
    obtain ⟨q, hq, hq2⟩ := List.getElem_of_mem hm
    rw [List.length_take] at hq
    rw [List.getElem_take] at hq2
    have hq' : zs[q]? = some x := List.getElem?_eq_some_iff.mpr ⟨by omega, hq2⟩
    have := (List.getElem?_inj (by omega) hn).mp (hq'.trans hx.symm)
    omega
  · show y ∈ (zs.take (i + 1)).reverse
    rw [List.mem_reverse]
    refine List.mem_iff_getElem?.mpr ⟨b, ?_⟩
    rw [List.getElem?_take, if_pos (by omega)]
    exact hy
theorem nd_ne {zs : List Str} (hn : zs.Nodup) {i j : Nat} {x y : Str} (hx : zs[i]? = some x) (hy : zs[j]? = some y) (hne : i ≠ j) : x ≠ y := fun e => by
  have hx' := List.getElem?_eq_some_iff.mp hx
  have hy' := List.getElem?_eq_some_iff.mp hy
  exact hne ((List.getElem?_inj hx'.1 hn).mp (by rw [hx, hy, e]))
end DL
set_option Elab.async false
set_option linter.all false
set_option maxRecDepth 100000
set_option maxHeartbeats 400000
set_option pp.maxSteps 250
namespace DL
open PySem PySem.Spec PyProof.Rows L2
/-! ### constant ints -/
inductive IntEs : List Expr → List Int → Prop
  | nil : IntEs [] []
  | cons {i : Int} {j : Nat} {p : Pos} {es : List Expr} {is : List Int} : IntEs es is → IntEs (.Constant (.int i) j p :: es) (i :: is)
theorem wa_ints {X : Cx} {δ : DS} {μ : List M} {es2 : List Expr} : ∀ {es : List Expr} {is : List Int} {RL : List W → List M → Prop}, IntEs es is → WA X es2 δ μ (fun ws μ1 => RL ((is.map D.int).map W.val ++ ws) μ1) → WA X (es ++ es2) δ μ RL
  | _, _, _, .nil, h => h
  | _, _, RL, .cons t, h => a_cons (x_int (wa_ints (RL := fun ws μ2 => RL (_ :: ws) μ2) t h)) rfl
def intEsB : List Expr → List Int → Bool
  | [], [] => true
  | .Constant (.int s) _ _ :: es, z :: ss => decide (s = z) && intEsB es ss
  | _, _ => false
theorem intEs_of : ∀ {l : List Expr} {ss : List Int}, intEsB l ss = true → IntEs l ss
  | [], [], _ => .nil
  | .Constant (.int s) _ _ :: es, z :: ss, h => by
    have h : (decide (s = z) && intEsB es ss) = true := h
    rw [Bool.and_eq_true, decide_eq_true_eq] at h
    rw [← h.1]
    exact .cons (intEs_of h.2)
abbrev s_law_count : Stmt := top 83
theorem sc_law_count : FnScope ["_law_feed_here"] ["_law_feed_here"] (defScope s_law_count) := ⟨rfl, rfl, rfl, by decide +kernel, rfl, by decide +kernel, by decide +kernel⟩
def S_law_count : SpecD := fun ws μ R => ∃ (j n : Nat), ws = [.own j] ∧ FeedAt μ j n ∧ n + 2000 < 10 ^ 9 ∧ ∀ (c : Int) μ', 1 ≤ c → c ≤ 200 → Fed μ μ' j (n + 3) → R (.val (.int c)) μ'
def cntL : List Expr := match defBody s_law_count with | [.Return (some (.Call _ [_, .List l _] _ _)) _] => l | _ => []
theorem cnt_es : intEsB (cntL.take 10) [1, 2, 3, 4, 5, 6, 8, 12, 30, 200] = true := by decide +kernel
theorem count_body {X : Cx} {k : Nat} (T : Tops (moOf X)) (C1 : Callee (moOf X) "_law_draw" 1 S_law_draw) (C2 : Callee (moOf X) "_law_one" 2 S_law_one) (G : GX X (defScope s_law_count) ["_law_feed_here"]) (hr : Room k X.A) (hk : 2 ≤ k) {j n : Nat} {μ : List M} {D0 : DE} (hf : FeedAt μ j n) (hn : n + 2000 < 10 ^ 9) (es : List Expr) (is : List Int) (t : IntEs es is) (h1 : ∀ i ∈ is, 1 ≤ i ∧ i ≤ 200) (hl : is.length = 10) {j1 j2 j3 j4 : Nat} {q1 q2 q3 q4 q5 q6 r1 r2 r3 r4 r5 r6 p1 p2 p3 p4 p5 : Pos}
    (h : ∀ (c : Int) μ', 1 ≤ c → c ≤ 200 → Fed μ μ' j (n + 3) → D0.rt (.val (.int c)) μ') : WSs X [.Return (some (.Call (.Name "_law_one" p1) [.Name "_law_feed_here" p2, .List (es ++ [.BinOp (.Constant (.int 1) j1 q1) .Add (.Call (.Name "_law_draw" q2) [.Name "_law_feed_here" q3, .Constant (.int 40) j2 q4] [] q5) q6, .BinOp (.Constant (.int 1) j3 r1) .Add (.Call (.Name "_law_draw" r2) [.Name "_law_feed_here" r3, .Constant (.int 200) j4 r4] [] r5) r6]) p3] [] p4)) p5] [some (.own j)] μ D0 := by
  refine s_one <| s_ret <| x_callNL G C2 hr hk <| x_v G 0 <| x_lst <| wa_ints t <| a_cons <| x_add <| x_int <| x_call G C1 hr (by omega) <| a_cons <| x_v G 0 <| a_cons <| x_int <| a_nil ⟨j, n, 40, rfl, hf, by omega, by omega, by omega, fun a μ1 ha hF1 => ii <| a_cons <| x_add <| x_int <| x_call G C1 hr (by omega) <| a_cons <| x_v G 0 <| a_cons <| x_int <| a_nil ⟨j, n + 1, 200, rfl, hF1.at_, by omega, by omega, by omega, fun b μ2 hb hF2 => ii <| a_nil ⟨is.map .int ++ [.int (1 + a), .int (1 + b)], by rw [List.map_append]; rfl, by rw [List.length_append, List.length_map, hl]; show 12 ≤ 100000; decide, ?_⟩⟩⟩
  have hF := hF1.trans hF2
  refine ⟨j, n + 1 + 1, _, _, rfl, hF.at_, by omega, .inr rfl, by intro e; exact absurd (congrArg List.length e) (by rw [List.length_append]; simp), by rw [List.length_append, List.length_map, hl]; show 12 ≤ 1000; decide, fun x hx μ' hF3 => ?_⟩
  have hF' := (hF.trans hF3).mono (m := n + 3) (by omega)
  rcases List.mem_append.mp hx with z | z
  · obtain ⟨i, hi, rfl⟩ := List.mem_map.mp z
    exact h i μ' (h1 i hi).1 (h1 i hi).2 hF'
  · rcases List.mem_cons.mp z with z | z
    · rw [z]; exact h _ μ' (by omega) (by omega) hF'
    · rw [List.mem_singleton.mp z]; exact h _ μ' (by omega) (by omega) hF'
theorem ok_law_count {m : Mo} (T : Tops m) (F : Stands m "_law_count" s_law_count) (C1 : Callee m "_law_draw" 1 S_law_draw) (C2 : Callee m "_law_one" 2 S_law_one) : Callee m "_law_count" 3 S_law_count := by
  refine callee_of F sc_law_count (ps := ["_law_feed_here"]) (fun ws μ R h => by obtain ⟨_, _, rfl, _⟩ := h; rfl) (fun _ _ _ _ _ _ us hl => match us, hl with | [_], _ => rfl) fun X hm G fx hr ws μ R h => ?_
  subst hm
  obtain ⟨j, n, rfl, hf, hn, h⟩ := h
  exact count_body T C1 C2 G hr (by decide) hf hn (cntL.take 10) _ (intEs_of cnt_es) (by decide) rfl fun c μ' h1 h2 hF => ret_own hF (h c μ' h1 h2 hF)
end DL
set_option Elab.async false
set_option linter.all false
set_option maxRecDepth 100000
set_option maxHeartbeats 400000
set_option pp.maxSteps 250
namespace DL
open PySem PySem.Spec PyProof.Rows L2
abbrev s_law_web : Stmt := top 75
abbrev N_law_web : List Str := ["_law_feed_here", "_law_way", "_law_many", "_law_shape", "_law_names_here", "_law_ties", "_law_at", "_law_back", "_law_turn", "_law_one_here", "_law_roads", "_law_tie", "_law_road"]
theorem sc_law_web : FnScope N_law_web ["_law_feed_here", "_law_way"] (defScope s_law_web) := ⟨rfl, rfl, rfl, by decide +kernel, rfl, by decide +kernel, by decide +kernel⟩
def S_law_web : SpecD := fun ws μ R => ∃ (j n : Nat) (way : Str), ws = [.own j, .val (.str way)] ∧ FeedAt μ j n ∧ n + 2000 < 10 ^ 9 ∧ (way = "tree" ∨ way = "any") ∧ ∀ (w : Wb) μ', WOk w → (way = "tree" → ∃ π, TW w π) → Fed μ μ' j (n + 200) → R (.val (webD w)) μ'
def zF : D → D := fun d => match d with | .tup [x, .tup [y, z]] => .tup [x, y, z] | _ => .non
theorem zip_rds : ∀ (rds : List Str) (fs : List (Str × Str)), (zipD (rds.map .str) (fs.map tieD)).map zF = (rdsZ rds fs).map roadD
  | [], _ => rfl
  | _ :: _, [] => rfl
  | a :: rds, e :: fs => by
    exact congrArg (fun t => D.tup [.str a, .str e.1, .str e.2] :: t) (zip_rds rds fs)
theorem zip_get : ∀ {rds : List Str} {fs : List (Str × Str)} {i : Nat} {d : D}, (zipD (rds.map .str) (fs.map tieD))[i]? = some d → ∃ (x : Str) (e : Str × Str), d = .tup [.str x, tieD e]
  | [], _, _, _, h => by cases h
  | _ :: _, [], _, _, h => by cases h
  | a :: rds, e :: fs, 0, d, h => by cases h; exact ⟨a, e, rfl⟩
  | a :: rds, e :: fs, i + 1, d, h => zip_get (rds := rds) (fs := fs) (i := i) h
def webL : List Expr := match defBody s_law_web with | .Assign _ (.Tuple (.Call _ [_, .List l _] _ _ :: _) _ _) _ :: _ => l | _ => []
theorem web_es : intEsB webL [1, 2, 3, 3, 4, 4, 5, 5, 6, 6, 7, 8] = true := by decide +kernel
theorem x_ints {X : Cx} {δ : DS} {μ : List M} {R : W → List M → Prop} {es : List Expr} {pos : Pos} (is : List Int) (hl : is.length ≤ 100000) (t : IntEs es is) (h : R (.val (.lst (is.map .int))) μ) : WE X (.List es pos) δ μ R := by
  rw [← List.append_nil es]
  exact x_lst (wa_ints t (a_nil ⟨is.map .int, by rw [List.append_nil], by rw [List.length_map]; exact hl, h⟩))
theorem web_first {X : Cx} {k : Nat} (C1 : Callee (moOf X) "_law_draw" 1 S_law_draw) (C2 : Callee (moOf X) "_law_one" 2 S_law_one) (G : GX X (defScope s_law_web) N_law_web) (fx : FX X) (hr : Room k X.A) (hk : 2 ≤ k) {j n : Nat} {μ : List M} {wy : W} {D0 : DE} (hf : FeedAt μ j n) (hn : n + 2000 < 10 ^ 9) (l : List Expr) (t : IntEs l [1, 2, 3, 3, 4, 4, 5, 5, 6, 6, 7, 8]) {sts : List Stmt} {kt k2 j4 : Nat} {px py pt p1 p2 p3 p4 p5 p6 p7 p8 pt2 spos : Pos}
    (hw : ∀ env : Env, env.scope = defScope s_law_web → swappedStores [.Tuple [.Name "_law_many" px, .Name "_law_shape" py] kt pt] (.Tuple [.Call (.Name "_law_one" p1) [.Name "_law_feed_here" p2, .List l p3] [] p4, .Call (.Name "_law_draw" p5) [.Name "_law_feed_here" p6, .Constant (.int 4) j4 p7] [] p8] k2 pt2) env = pure (some ([("_law_many" : Str), ("_law_shape" : Str)] : List Str)))
    (hs : swapsWithSole [.Tuple [.Name "_law_many" px, .Name "_law_shape" py] kt pt] (.Tuple [.Call (.Name "_law_one" p1) [.Name "_law_feed_here" p2, .List l p3] [] p4, .Call (.Name "_law_draw" p5) [.Name "_law_feed_here" p6, .Constant (.int 4) j4 p7] [] p8] k2 pt2) spos.line X.env = pure false)
    (h : ∀ (many shape : Nat) μ', 1 ≤ many → many ≤ 8 → shape < 4 → Fed μ μ' j (n + 2) → WSs X sts [some (.own j), some wy, some (.val (.int many)), some (.val (.int shape)), none, none, none, none, none, none, none, none, none] μ' D0) :
    WSs X (.Assign [.Tuple [.Name "_law_many" px, .Name "_law_shape" py] kt pt] (.Tuple [.Call (.Name "_law_one" p1) [.Name "_law_feed_here" p2, .List l p3] [] p4, .Call (.Name "_law_draw" p5) [.Name "_law_feed_here" p6, .Constant (.int 4) j4 p7] [] p8] k2 pt2) spos :: sts) [some (.own j), some wy, none, none, none, none, none, none, none, none, none, none, none] μ D0 := by
  refine s_cons <| s_par G 2 3 (hw := hw) (hs := hs) (hs1 := star_call _ _ _ _ _ _) (hs2 := star_call _ _ _ _ _ _) <| x_callNL G C2 hr hk <| x_v G 0 <| x_ints _ (by show 12 ≤ 100000; decide) t ⟨j, n, _, ([1, 2, 3, 3, 4, 4, 5, 5, 6, 6, 7, 8] : List Int).map D.int, rfl, hf, by omega, .inr rfl, (fun q => nomatch q), (by show 12 ≤ 1000; decide), fun x hx μ1 hF1 => x_call G C1 hr (by omega) <| a_cons <| x_v G 0 <| a_cons <| x_int <| a_nil ⟨j, n + 1, 4, rfl, hF1.at_, by omega, by omega, by omega, fun r μ2 hr2 hF2 => ?_⟩⟩
  obtain ⟨i, hi, rfl⟩ := List.mem_map.mp hx
  have hi2 : 1 ≤ i ∧ i ≤ 8 := (by decide : ∀ i ∈ ([1, 2, 3, 3, 4, 4, 5, 5, 6, 6, 7, 8] : List Int), 1 ≤ i ∧ i ≤ 8) i hi
  obtain ⟨many, rfl⟩ := Int.eq_ofNat_of_zero_le (by omega : 0 ≤ i)
  exact h many r μ2 (by omega) (by omega) (by omega) (hF1.trans hF2)
theorem ok_law_web {m : Mo} (T : Tops m) (F : Stands m "_law_web" s_law_web) (C1 : Callee m "_law_draw" 1 S_law_draw) (C2 : Callee m "_law_one" 2 S_law_one) (C3 : Callee m "_law_mixed" 2 S_law_mixed) (C4 : Callee m "_law_names" 3 S_law_names) : Callee m "_law_web" 4 S_law_web := by
  refine callee_of F sc_law_web (ps := ["_law_feed_here", "_law_way"]) (fun ws μ R h => by obtain ⟨_, _, _, rfl, _⟩ := h; rfl) (fun _ _ _ _ _ _ us hl => match us, hl with | [_, _], _ => rfl) fun X hm G fx hr ws μ R h => ?_
  subst hm
  obtain ⟨j, n, way, rfl, hf, hn, hway, h⟩ := h
  have hjl := hf.lt
  have at4 : ∀ (ν : List M) (m : M), ν.length = μ.length → (ν ++ [m])[μ.length]? = some m := fun ν m e => by rw [← e]; exact at_last
  have set4 : ∀ (ν : List M) (m m' : M), ν.length = μ.length → (ν ++ [m]).set μ.length m' = ν ++ [m'] := fun ν m m' e => by rw [← e]; exact set_last
  refine web_first C1 C2 G fx hr (by decide) hf hn webL (intEs_of web_es) (by intro env h; cases env; cases h; rfl) rfl ?_
  intro many shape μ1 hm1 hm2 hs hF1
  refine s_cons <| s_par G 4 5 <| x_call G C4 hr (by decide) <| a_cons <| x_v G 0 <| a_cons <| x_v G 2 <| a_nil ⟨j, n + 2, many, rfl, hF1.at_, by omega, by omega, fun zs μ2 hzn hzl hzo hF2 => x_lstO <| a_nil ⟨[], rfl, Nat.zero_le _, ?_⟩⟩
  have hF := hF1.trans hF2
  rw [hF.len]
  refine s_cons <| s_for G <| i_rng2 G T.range <| x_int <| x_v G 2 <| ii (i := 1) (j := (many : Int)) ⟨⟨by omega, by omega, by omega, by omega⟩, fun i δ μ' => ∃ (ts : List (Str × Str)) (μ1 : List M) (a b : Option W), δ = [some (.own j), some (.val (.str way)), some (.val (.int many)), some (.val (.int shape)), some (.val (.lst (zs.map .str))), some (.own μ.length), a, b, none, none, none, none, none] ∧ μ' = μ1 ++ [.ml (ts.map tieD)] ∧ Fed μ μ1 j (n + 16 + i * 2) ∧ ts.length ≤ i ∧ (∀ e ∈ ts, TieOk zs e) ∧ (way = "tree" → TreeT (zs.take (i + 1)).reverse ts.reverse), ⟨[], μ2, none, none, rfl, rfl, hF.mono (by omega), Nat.le_refl _, fun _ h => (nomatch h), fun _ => ?_⟩, fun _ _ _ _ _ => trivial, ?_, ?_⟩
  · obtain ⟨z, zz, rfl⟩ : ∃ z zz, zs = z :: zz := by
      cases zs with
      | nil => exact absurd hzl (by show ¬ 0 = many; omega)
      | cons z zz => exact ⟨z, zz, rfl⟩
    exact TreeT.one z
  · rintro i d δ' μ' hd ⟨ts, μ3, a, b, rfl, rfl, hF, htl, htk, htt⟩
    obtain ⟨hlt, rfl⟩ := rng_get hd
    have hlt : i + 1 < many := by omega
    have hj3 : j < μ3.length := by rw [hF.len]; exact hjl
    refine g_name G 6 ?_
    refine s_cons <| s_set G 7 <| EvE.mono (R := fun w μ' => ∃ (b : Nat) (μ4 : List M), w = .val (.int b) ∧ b ≤ i ∧ μ' = μ4 ++ [.ml (ts.map tieD)] ∧ Fed μ μ4 j (n + 17 + i * 2)) ?_ fun w μ' ⟨b, μ4, hw, hb, hm, hF4⟩ => ?_
    · refine x_if <| t_eq <| x_v G 3 <| x_int ⟨_, .int _ _, fun _ => x_sub <| x_v G 6 <| x_int <| ii ⟨i, μ3, by rw [show (1 : Int) + (i : Int) - 1 = (i : Int) by omega], Nat.le_refl _, rfl, hF.mono (by omega)⟩, fun _ => x_if <| t_eq <| x_v G 3 <| x_int ⟨_, .int _ _, fun _ => x_int ⟨0, μ3, rfl, Nat.zero_le _, rfl, hF.mono (by omega)⟩, fun _ => x_call G C1 hr (by decide) <| a_cons <| x_v G 0 <| a_cons <| x_v G 6 <| a_nil ⟨j, n + 16 + i * 2, i + 1, congrArg (fun z : Int => [W.own j, W.val (.int z)]) (show (1 : Int) + (i : Int) = ((i + 1 : Nat) : Int) by omega), hF.at_.app _, by omega, by omega, by omega, fun r μ5 hr5 hF5 => ?_⟩⟩⟩
      obtain ⟨μ5', rfl, hF5'⟩ := Fed.app hj3 hF5
      exact ⟨r, μ5', rfl, by omega, rfl, (hF.trans hF5').mono (by omega)⟩
    · subst hw hm
      have hj4 : j < μ4.length := by rw [hF4.len]; exact hjl
      refine s_one <| s_if <| EvT.mono (R := fun k μ' => (k = false → way = "any") ∧ ∃ μ5 : List M, μ' = μ5 ++ [.ml (ts.map tieD)] ∧ Fed μ μ5 j (n + 18 + i * 2)) ?_ fun k μ' ⟨hk, μ5, hm, hF5⟩ => ?_
      · refine t_or <| t_ne <| x_v G 1 <| x_str ⟨_, .str _ _, fun hk => w_or1 <| t_gt <| x_call G C1 hr (by decide) <| a_cons <| x_v G 0 <| a_cons <| x_int <| a_nil ⟨j, n + 17 + i * 2, 6, rfl, hF4.at_.app _, by omega, by omega, by omega, fun r μ5 hr5 hF5 => x_int <| ii ?_⟩, fun hk => ⟨fun k => (nomatch k), μ4, rfl, hF4.mono (by omega)⟩⟩
        obtain ⟨μ5', rfl, hF5'⟩ := Fed.app hj4 hF5
        exact ⟨fun _ => of_decide_eq_true (by cases h : decide (way = "any") with | true => rfl | false => rw [h] at hk; cases hk), μ5', rfl, (hF4.trans hF5').mono (by omega)⟩
      · subst hm
        refine ⟨fun hk1 => ?_, fun hk0 => s_nil ⟨ts, μ5, _, _, rfl, rfl, hF5.mono (by omega), by omega, htk, fun hw => ?_⟩⟩
        · have gx : zs[i + 1]? = some (zs[i + 1]'(by omega)) := List.getElem?_eq_getElem (by omega)
          have gy : zs[b]? = some (zs[b]'(by omega)) := List.getElem?_eq_getElem (by omega)
          generalize zs[i + 1]'(by omega) = x at gx
          generalize zs[b]'(by omega) = y at gy
          refine s_one <| s_expr <| x_append <| x_v G 5 ⟨μ.length, rfl, ⟨_, at4 μ5 _ hF5.len⟩, x_tup <| a_cons <| x_at <| x_v G 4 <| x_v G 6 ⟨zs.map .str, 1 + (i : Int), .str x, .lst .lst, rfl, ?_, a_cons <| x_at <| x_v G 4 <| x_v G 7 ⟨zs.map .str, (b : Int), .str y, .lst .lst, rfl, ?_, a_nil ⟨[.str x, .str y], rfl, (by show 2 ≤ 100000; decide), ts.map tieD, tieD (x, y), at4 μ5 _ hF5.len, rfl, by rw [List.length_map]; omega, ts ++ [(x, y)], μ5, _, _, rfl, ?_, hF5.mono (by omega), by rw [List.length_append]; show _ + 1 ≤ _; omega, fun e he => ?_, fun hw => tree_next hzn gx gy hb (htt hw)⟩⟩⟩⟩
          · rw [show (1 : Int) + (i : Int) = ((i + 1 : Nat) : Int) by omega]
            exact atN (by rw [List.getElem?_map, gx]; rfl)
          · exact atN (by rw [List.getElem?_map, gy]; rfl)
          · rw [set4 μ5 _ _ hF5.len, List.map_append]; rfl
          · rcases List.mem_append.mp he with z | z
            · exact htk e z
            · rw [List.mem_singleton.mp z]
              exact ⟨List.mem_of_getElem? gx, List.mem_of_getElem? gy, nd_ne hzn gx gy (by omega)⟩
        · rw [hw] at hk
          exact absurd (hk hk0) (by decide)
  · rintro δ' μ' ⟨ts0, μ3, a, b, rfl, rfl, hF, htl, htk, htt⟩
    rw [rng_length] at htl hF htt
    have hj3 : j < μ3.length := by rw [hF.len]; exact hjl
    have hF := hF.mono (m := n + 40) (by omega)
    have htt : way = "tree" → TreeT zs.reverse ts0.reverse := fun hw => by
      have h1 := htt hw
      rw [show ((many : Int) - 1).toNat + 1 = many by omega, ← hzl, List.take_length] at h1
      exact h1
    refine s_cons <| s_for G <| i_rng1 G T.range <| EvE.mono (R := fun w μ' => ∃ (c : Nat) (μ4 : List M), w = .val (.int c) ∧ (way = "tree" → c = 0) ∧ ts0.length + c ≤ 14 ∧ (0 < c → 2 ≤ many) ∧ μ' = μ4 ++ [.ml (ts0.map tieD)] ∧ Fed μ μ4 j (n + 41)) ?_ fun w μ' ⟨c, μ4, hw, hc0, hc1, hc2, hm, hF4⟩ => ?_
    · refine x_if <| t_and <| t_ne <| x_v G 1 <| x_str ⟨_, .str _ _, fun hk => w_and1 <| t_gt <| x_v G 2 <| x_int <| ii ⟨fun hk2 => x_call G C1 hr (by decide) <| a_cons <| x_v G 0 <| a_cons <| x_int <| a_nil ⟨j, n + 40, 4, rfl, hF.at_.app _, by omega, by omega, by omega, fun r μ5 hr5 hF5 => ?_⟩, fun _ => x_int ⟨0, μ3, rfl, fun _ => rfl, by omega, fun h => absurd h (by omega), rfl, hF.mono (by omega)⟩⟩, fun hk => ⟨fun k => (nomatch k), fun _ => x_int ⟨0, μ3, rfl, fun _ => rfl, by omega, fun h => absurd h (by omega), rfl, hF.mono (by omega)⟩⟩⟩
      obtain ⟨μ5', rfl, hF5'⟩ := Fed.app hj3 hF5
      exact ⟨r, μ5', rfl, fun hw => (by rw [hw] at hk; exact absurd hk (by decide)), by omega, fun _ => by have := of_decide_eq_true hk2; omega, rfl, hF.trans hF5'⟩
    subst hw hm
    refine ⟨c, rfl, by omega, by omega, fun i δ μ' => ∃ (ts : List (Str × Str)) (μ1 : List M) (t o : Option W), δ = [some (.own j), some (.val (.str way)), some (.val (.int many)), some (.val (.int shape)), some (.val (.lst (zs.map .str))), some (.own μ.length), a, b, t, o, none, none, none] ∧ μ' = μ1 ++ [.ml (ts.map tieD)] ∧ Fed μ μ1 j (n + 41 + i * 2) ∧ ts.length ≤ ts0.length + i ∧ (∀ e ∈ ts, TieOk zs e) ∧ (way = "tree" → TreeT zs.reverse ts.reverse), ⟨ts0, μ4, none, none, rfl, rfl, hF4, Nat.le_refl _, htk, htt⟩, fun _ _ _ _ _ => trivial, ?_, ?_⟩
    · rintro i d δ' μ' hd ⟨ts, μ5, t, o, rfl, rfl, hF, htl2, htk2, htt2⟩
      obtain ⟨hlt, rfl⟩ := rng_get hd
      have hlt : i < c := by omega
      have hm2 := hc2 (by omega)
      have hj5 : j < μ5.length := by rw [hF.len]; exact hjl
      refine g_name G 8 ?_
      refine s_cons <| s_set G 9 <| x_call G C1 hr (by decide) <| a_cons <| x_v G 0 <| a_cons <| x_v G 2 <| a_nil ⟨j, n + 41 + i * 2, many, rfl, hF.at_.app _, by omega, by omega, by omega, fun r μ6 hr6 hF6 => ?_⟩
      obtain ⟨μ6', rfl, hF6'⟩ := Fed.app hj5 hF6
      have hF7 := hF.trans hF6'
      have hj6 : j < μ6'.length := by rw [hF7.len]; exact hjl
      have hrm : r < many := by omega
      have gx : zs[r]? = some (zs[r]'(by omega)) := List.getElem?_eq_getElem (by omega)
      generalize zs[r]'(by omega) = x at gx
      refine s_one <| s_expr <| x_append <| x_v G 5 ⟨μ.length, rfl, ⟨_, at4 μ6' _ hF7.len⟩, x_tup <| a_cons <| x_at <| x_v G 4 <| x_v G 9 ⟨zs.map .str, (r : Int), .str x, .lst .lst, rfl, atN (by rw [List.getElem?_map, gx]; rfl), a_cons <| x_at <| x_v G 4 <| x_mod <| x_toint G T.int <| x_add <| x_add <| x_v G 9 <| x_int <| ii (i := (r : Int)) (j := 1) <| x_call G C1 hr (by decide) <| a_cons <| x_v G 0 <| a_cons <| x_sub <| x_v G 2 <| x_int <| ii (i := (many : Int)) (j := 1) <| a_nil ⟨j, n + 41 + i * 2 + 1, (many : Int) - 1, rfl, hF7.at_.app _, by omega, by omega, by omega, fun q μ8 hq8 hF8 => ii (i := (r : Int) + 1) (j := (q : Int)) ⟨_, rfl, x_v G 2 <| ii (i := (r : Int) + 1 + (q : Int)) (j := (many : Int)) ⟨by omega, ?_⟩⟩⟩⟩⟩
      obtain ⟨μ8', rfl, hF8'⟩ := Fed.app hj6 hF8
      have hF9 := hF7.trans hF8'
      have hqm : q < many - 1 := by omega
      have hmod : ((r : Int) + 1 + (q : Int)) % (many : Int) = (((r + 1 + q) % many : Nat) : Int) := by rw [Int.natCast_emod]; rfl
      have hml : (r + 1 + q) % many < many := Nat.mod_lt _ (by omega)
      have hne : r ≠ (r + 1 + q) % many := fun e => by
        by_cases hc : r + 1 + q < many
        · rw [Nat.mod_eq_of_lt hc] at e; omega
        · rw [Nat.mod_eq_sub_mod (by omega), Nat.mod_eq_of_lt (by omega)] at e; omega
      rw [hmod]
      generalize (r + 1 + q) % many = b2 at hml hne
      have gy : zs[b2]? = some (zs[b2]'(by omega)) := List.getElem?_eq_getElem (by omega)
      generalize zs[b2]'(by omega) = y at gy
      refine ⟨zs.map .str, (b2 : Int), .str y, .lst .lst, rfl, atN (by rw [List.getElem?_map, gy]; rfl), a_nil ⟨[.str x, .str y], rfl, (by show 2 ≤ 100000; decide), ts.map tieD, tieD (x, y), at4 μ8' _ hF9.len, rfl, by rw [List.length_map]; omega, ts ++ [(x, y)], μ8', _, _, rfl, ?_, hF9.mono (by omega), by rw [List.length_append]; show _ + 1 ≤ _; omega, fun e he => ?_, fun hw => ?_⟩⟩
      · rw [set4 μ8' _ _ hF9.len, List.map_append]; rfl
      · rcases List.mem_append.mp he with z | z
        · exact htk2 e z
        · rw [List.mem_singleton.mp z]
          exact ⟨List.mem_of_getElem? gx, List.mem_of_getElem? gy, nd_ne hzn gx gy hne⟩
      · have := hc0 hw
        omega
    · rintro δ' μ' ⟨ts, μ5, t, o, rfl, rfl, hF, htl2, htk2, htt2⟩
      rw [rng_length] at htl2 hF
      have hF := hF.mono (m := n + 70) (by omega)
      have htl3 : ts.length ≤ 14 := by omega
      have hj5 : j < μ5.length := by rw [hF.len]; exact hjl
      refine s_cons <| s_setLc (o := false) G [("_law_tie", 11)] 5 <| i_lst <| x_call G C3 hr (by decide) <| a_cons <| x_v G 0 <| a_cons <| x_v G 5 <| a_nil ⟨j, n + 70, _, ts.map tieD, rfl, hF.at_.app _, by omega, .lst (.own (at4 μ5 _ hF.len)), by rw [List.length_map]; omega, fun ys μ6 hp hF6 => ?_⟩
      rw [List.length_map] at hF6
      obtain ⟨us, hp1, rfl⟩ := perm_map hp
      obtain ⟨μ6', rfl, hF6'⟩ := Fed.app hj5 hF6
      have hF7 := (hF.trans hF6').mono (m := n + 84) (by omega)
      have hul : us.length = ts.length := hp1.length_eq
      refine ⟨us.map tieD, .lst, by rw [List.length_map]; omega, fun i acc μ' => ∃ (fs : List (Str × Str)) (μ7 : List M), acc = fs.map tieD ∧ fs.length = i ∧ FlL fs us ∧ μ' = μ7 ++ [.ml (ts.map tieD)] ∧ Fed μ μ7 j (n + 84 + i), ⟨[], μ6', rfl, rfl, fun _ _ h => (nomatch h), rfl, hF7⟩, fun _ _ _ _ _ => trivial, ?_, ?_⟩
      · rintro i d acc μ' hd _ ⟨fs, μ7, rfl, hfl, hff, rfl, hF8⟩
        obtain ⟨e, he, rfl⟩ := maps_get hd
        have hil : i < us.length := (List.getElem?_eq_some_iff.mp he).1
        have hj7 : j < μ7.length := by rw [hF8.len]; exact hjl
        refine fun b => c_name (G.bk rfl) 11 fun b => ts_nil ⟨fun _ b => x_if <| t_eq <| x_call (G.bk rfl) C1 hr (by decide) <| a_cons <| x_v (G.bk rfl) 0 <| a_cons <| x_int <| a_nil ⟨j, n + 84 + i, 2, rfl, hF8.at_.app _, by omega, by omega, by omega, fun r μ9 hr9 hF9 => x_int ⟨_, .int _ _, fun _ => ?_, fun _ => ?_⟩⟩, fun k => nomatch k⟩
        · obtain ⟨μ9', rfl, hF9'⟩ := Fed.app hj7 hF9
          exact x_tup <| a_cons <| x_at <| x_v (G.bk rfl) 11 <| x_int ⟨_, 1, .str e.2, .tup tupT, rfl, rfl, a_cons <| x_at <| x_v (G.bk rfl) 11 <| x_int ⟨_, 0, .str e.1, .tup tupT, rfl, rfl, a_nil ⟨[.str e.2, .str e.1], rfl, (by show 2 ≤ 100000; decide), _, rfl, fs ++ [(e.2, e.1)], μ9', by rw [List.map_append]; rfl, by rw [List.length_append, hfl]; rfl, flL_snoc hff hfl he (.inr rfl), rfl, hF8.trans hF9'⟩⟩⟩
        · obtain ⟨μ9', rfl, hF9'⟩ := Fed.app hj7 hF9
          exact x_v (G.bk rfl) 11 ⟨_, rfl, fs ++ [e], μ9', by rw [List.map_append]; rfl, by rw [List.length_append, hfl]; rfl, flL_snoc hff hfl he (.inl rfl), rfl, hF8.trans hF9'⟩
      · rintro acc μ' ⟨fs, μ7, rfl, hfl, hff, rfl, hF8⟩
        rw [List.length_map] at hfl hF8
        have hF8 := hF8.mono (m := n + 100) (by omega)
        have hj7 : j < μ7.length := by rw [hF8.len]; exact hjl
        refine s_cons <| s_set G 10 <| x_call G C4 hr (by decide) <| a_cons <| x_v G 0 <| a_cons <| x_len G T.len <| x_v G 5 ⟨fs.map tieD, .lst .lst, a_nil ⟨j, n + 100, fs.length, by rw [List.length_map], hF8.at_.app _, by omega, by omega, fun rds μ8 hrn hrl hro hF9 => ?_⟩⟩
        obtain ⟨μ8', rfl, hF9'⟩ := Fed.app hj7 hF9
        have hF10 := hF8.trans hF9'
        have hj8 : j < μ8'.length := by rw [hF10.len]; exact hjl
        refine s_one <| s_ret <| x_tup <| a_cons <| x_tux G T.tuple <| x_call G C3 hr (by decide) <| a_cons <| x_v G 0 <| a_cons <| x_v G 4 <| a_nil ⟨j, n + 100 + 14, _, zs.map .str, rfl, hF10.at_.app _, by omega, .lst .lst, by rw [List.length_map]; omega, fun ys μ9 hpp hF11 => ⟨_, .lst, ?_⟩⟩
        rw [List.length_map] at hF11
        obtain ⟨ps, hp2, rfl⟩ := perm_map hpp
        obtain ⟨μ9', rfl, hF11'⟩ := Fed.app hj8 hF11
        have hF12 := hF10.trans hF11'
        refine a_cons <| x_tuple G T.tuple <| x_lc (o := false) G [("_law_road", 12), ("_law_tie", 11)] <| lc_map zF <| i_zip G T.zip <| x_v G 10 <| x_v G 5 ⟨rds.map .str, fs.map tieD, rfl, rfl, by rw [zipD_length, List.length_map, List.length_map]; omega, trivial, fun i d hi b => ?_, ⟨_, .lst, a_nil ⟨[psD ps, rsD (rdsZ rds fs)], by rw [zip_rds rds fs]; rfl, (by show 2 ≤ 100000; decide), ?_⟩⟩⟩
        · obtain ⟨x, e, rfl⟩ := zip_get hi
          exact c_tup2 (G.bk rfl) 12 11 tupT fun b => x_catT <| x_tup <| a_cons <| x_v (G.bk rfl) 12 <| a_nil ⟨[.str x], rfl, (by show 1 ≤ 100000; decide), x_v (G.bk rfl) 11 ⟨_, _, [.str x], [.str e.1, .str e.2], rfl, rfl, tupT, tupT, (fun q => nomatch q), (fun q => nomatch q), (by show 3 ≤ 40000; decide), rfl, rfl⟩⟩
        · show R (.val _) ((μ9' ++ _).take μ.length)
          rw [List.take_left' hF12.len]
          have htk3 : ∀ e ∈ fs, TieOk zs e := fun e he => by
            obtain ⟨q, hq⟩ := List.mem_iff_getElem?.mp he
            obtain ⟨e0, h1, h2⟩ := hff q e hq
            exact flE_ok h2 (htk2 e0 (hp1.mem_iff.mp (List.mem_of_getElem? h1)))
          exact h ⟨ps, rdsZ rds fs⟩ μ9' (wok_of hzn hzo (by omega) (by omega) hp2 hrn hro hrl (by omega) htk3) (fun hw => tree_web (htt2 hw) hp1 (pairF_of rds fs us hrl (by omega) hff) hp2) (hF12.mono (by omega))
end DL
set_option Elab.async false
set_option linter.all false
set_option maxRecDepth 100000
set_option maxHeartbeats 400000
set_option pp.maxSteps 250
namespace DL
open PySem PySem.Spec PyProof.Rows L2
abbrev s_law_great_web : Stmt := top 84
abbrev N_law_great_web : List Str := ["_law_feed_here", "_law_way", "_law_many", "_law_shape", "_law_names_here", "_law_ties", "_law_at", "_law_back", "_law_turn", "_law_one_here", "_law_roads", "_law_tie", "_law_road"]
theorem sc_law_great_web : FnScope N_law_great_web ["_law_feed_here", "_law_way"] (defScope s_law_great_web) := ⟨rfl, rfl, rfl, by decide +kernel, rfl, by decide +kernel, by decide +kernel⟩
theorem ok_law_great_web {m : Mo} (T : Tops m) (F : Stands m "_law_great_web" s_law_great_web) (C1 : Callee m "_law_draw" 1 S_law_draw) (C2 : Callee m "_law_one" 2 S_law_one) (C3 : Callee m "_law_mixed" 2 S_law_mixed) (C4 : Callee m "_law_names" 3 S_law_names) : Callee m "_law_great_web" 4 S_law_web := by
  refine callee_of F sc_law_great_web (ps := ["_law_feed_here", "_law_way"]) (fun ws μ R h => by obtain ⟨_, _, _, rfl, _⟩ := h; rfl) (fun _ _ _ _ _ _ us hl => match us, hl with | [_, _], _ => rfl) fun X hm G fx hr ws μ R h => ?_
  subst hm
  obtain ⟨j, n, way, rfl, hf, hn, hway, h⟩ := h
  have hjl := hf.lt
  have at4 : ∀ (ν : List M) (m : M), ν.length = μ.length → (ν ++ [m])[μ.length]? = some m := fun ν m e => by rw [← e]; exact at_last
  have set4 : ∀ (ν : List M) (m m' : M), ν.length = μ.length → (ν ++ [m]).set μ.length m' = ν ++ [m'] := fun ν m m' e => by rw [← e]; exact set_last
  refine s_cons <| s_par G 2 3 <| x_add <| x_int <| x_call G C1 hr (by decide) <| a_cons <| x_v G 0 <| a_cons <| x_int <| a_nil ⟨j, n, 2, rfl, hf, by omega, by omega, by omega, fun r0 μ0 hr0 hF0 => ii <| x_call G C1 hr (by decide) <| a_cons <| x_v G 0 <| a_cons <| x_int <| a_nil ⟨j, n + 1, 3, rfl, hF0.at_, by omega, by omega, by omega, fun shape μ1 hs hF1' => ?_⟩⟩
  have hF1 := hF0.trans hF1'
  obtain ⟨many, hmany⟩ : ∃ many : Nat, many = 9 + r0 := ⟨_, rfl⟩
  rw [show (9 : Int) + (r0 : Int) = (many : Int) by omega]
  have hm1 : 1 ≤ many := by omega
  refine s_cons <| s_par G 4 5 <| x_call G C4 hr (by decide) <| a_cons <| x_v G 0 <| a_cons <| x_v G 2 <| a_nil ⟨j, n + 2, many, rfl, hF1.at_, by omega, by omega, fun zs μ2 hzn hzl hzo hF2 => x_lstO <| a_nil ⟨[], rfl, Nat.zero_le _, ?_⟩⟩
  have hF := hF1.trans hF2
  rw [hF.len]
  refine s_cons <| s_for G <| i_rng2 G T.range <| x_int <| x_v G 2 <| ii (i := 1) (j := (many : Int)) ⟨⟨by omega, by omega, by omega, by omega⟩, fun i δ μ' => ∃ (ts : List (Str × Str)) (μ1 : List M) (a b : Option W), δ = [some (.own j), some (.val (.str way)), some (.val (.int many)), some (.val (.int shape)), some (.val (.lst (zs.map .str))), some (.own μ.length), a, b, none, none, none, none, none] ∧ μ' = μ1 ++ [.ml (ts.map tieD)] ∧ Fed μ μ1 j (n + 16 + i * 2) ∧ ts.length ≤ i ∧ (∀ e ∈ ts, TieOk zs e) ∧ (way = "tree" → TreeT (zs.take (i + 1)).reverse ts.reverse), ⟨[], μ2, none, none, rfl, rfl, hF.mono (by omega), Nat.le_refl _, fun _ h => (nomatch h), fun _ => ?_⟩, fun _ _ _ _ _ => trivial, ?_, ?_⟩
  · obtain ⟨z, zz, rfl⟩ : ∃ z zz, zs = z :: zz := by
      cases zs with
      | nil => exact absurd hzl (by show ¬ 0 = many; omega)
      | cons z zz => exact ⟨z, zz, rfl⟩
    exact TreeT.one z
  · rintro i d δ' μ' hd ⟨ts, μ3, a, b, rfl, rfl, hF, htl, htk, htt⟩
    obtain ⟨hlt, rfl⟩ := rng_get hd
    have hlt : i + 1 < many := by omega
    have hj3 : j < μ3.length := by rw [hF.len]; exact hjl
    refine g_name G 6 ?_
    refine s_cons <| s_set G 7 <| EvE.mono (R := fun w μ' => ∃ (b : Nat) (μ4 : List M), w = .val (.int b) ∧ b ≤ i ∧ μ' = μ4 ++ [.ml (ts.map tieD)] ∧ Fed μ μ4 j (n + 17 + i * 2)) ?_ fun w μ' ⟨b, μ4, hw, hb, hm, hF4⟩ => ?_
    · refine x_if <| t_eq <| x_v G 3 <| x_int ⟨_, .int _ _, fun _ => x_sub <| x_v G 6 <| x_int <| ii ⟨i, μ3, by rw [show (1 : Int) + (i : Int) - 1 = (i : Int) by omega], Nat.le_refl _, rfl, hF.mono (by omega)⟩, fun _ => x_if <| t_eq <| x_v G 3 <| x_int ⟨_, .int _ _, fun _ => x_int ⟨0, μ3, rfl, Nat.zero_le _, rfl, hF.mono (by omega)⟩, fun _ => x_call G C1 hr (by decide) <| a_cons <| x_v G 0 <| a_cons <| x_v G 6 <| a_nil ⟨j, n + 16 + i * 2, i + 1, congrArg (fun z : Int => [W.own j, W.val (.int z)]) (show (1 : Int) + (i : Int) = ((i + 1 : Nat) : Int) by omega), hF.at_.app _, by omega, by omega, by omega, fun r μ5 hr5 hF5 => ?_⟩⟩⟩
      obtain ⟨μ5', rfl, hF5'⟩ := Fed.app hj3 hF5
      exact ⟨r, μ5', rfl, by omega, rfl, (hF.trans hF5').mono (by omega)⟩
    · subst hw hm
      have hj4 : j < μ4.length := by rw [hF4.len]; exact hjl
      refine s_one <| s_if <| EvT.mono (R := fun k μ' => (k = false → way = "any") ∧ ∃ μ5 : List M, μ' = μ5 ++ [.ml (ts.map tieD)] ∧ Fed μ μ5 j (n + 18 + i * 2)) ?_ fun k μ' ⟨hk, μ5, hm, hF5⟩ => ?_
      · refine t_or <| t_ne <| x_v G 1 <| x_str ⟨_, .str _ _, fun hk => w_or1 <| t_gt <| x_call G C1 hr (by decide) <| a_cons <| x_v G 0 <| a_cons <| x_int <| a_nil ⟨j, n + 17 + i * 2, 6, rfl, hF4.at_.app _, by omega, by omega, by omega, fun r μ5 hr5 hF5 => x_int <| ii ?_⟩, fun hk => ⟨fun k => (nomatch k), μ4, rfl, hF4.mono (by omega)⟩⟩
        obtain ⟨μ5', rfl, hF5'⟩ := Fed.app hj4 hF5
        exact ⟨fun _ => of_decide_eq_true (by cases h : decide (way = "any") with | true => rfl | false => rw [h] at hk; cases hk), μ5', rfl, (hF4.trans hF5').mono (by omega)⟩
      · subst hm
        refine ⟨fun hk1 => ?_, fun hk0 => s_nil ⟨ts, μ5, _, _, rfl, rfl, hF5.mono (by omega), by omega, htk, fun hw => ?_⟩⟩
        · have gx : zs[i + 1]? = some (zs[i + 1]'(by omega)) := List.getElem?_eq_getElem (by omega)
          have gy : zs[b]? = some (zs[b]'(by omega)) := List.getElem?_eq_getElem (by omega)
          generalize zs[i + 1]'(by omega) = x at gx
          generalize zs[b]'(by omega) = y at gy
          refine s_one <| s_expr <| x_append <| x_v G 5 ⟨μ.length, rfl, ⟨_, at4 μ5 _ hF5.len⟩, x_tup <| a_cons <| x_at <| x_v G 4 <| x_v G 6 ⟨zs.map .str, 1 + (i : Int), .str x, .lst .lst, rfl, ?_, a_cons <| x_at <| x_v G 4 <| x_v G 7 ⟨zs.map .str, (b : Int), .str y, .lst .lst, rfl, ?_, a_nil ⟨[.str x, .str y], rfl, (by show 2 ≤ 100000; decide), ts.map tieD, tieD (x, y), at4 μ5 _ hF5.len, rfl, by rw [List.length_map]; omega, ts ++ [(x, y)], μ5, _, _, rfl, ?_, hF5.mono (by omega), by rw [List.length_append]; show _ + 1 ≤ _; omega, fun e he => ?_, fun hw => tree_next hzn gx gy hb (htt hw)⟩⟩⟩⟩
          · rw [show (1 : Int) + (i : Int) = ((i + 1 : Nat) : Int) by omega]
            exact atN (by rw [List.getElem?_map, gx]; rfl)
          · exact atN (by rw [List.getElem?_map, gy]; rfl)
          · rw [set4 μ5 _ _ hF5.len, List.map_append]; rfl
          · rcases List.mem_append.mp he with z | z
            · exact htk e z
            · rw [List.mem_singleton.mp z]
              exact ⟨List.mem_of_getElem? gx, List.mem_of_getElem? gy, nd_ne hzn gx gy (by omega)⟩
        · rw [hw] at hk
          exact absurd (hk hk0) (by decide)
  · rintro δ' μ' ⟨ts0, μ3, a, b, rfl, rfl, hF, htl, htk, htt⟩
    rw [rng_length] at htl hF htt
    have hj3 : j < μ3.length := by rw [hF.len]; exact hjl
    have hF := hF.mono (m := n + 40) (by omega)
    have htt : way = "tree" → TreeT zs.reverse ts0.reverse := fun hw => by
      have h1 := htt hw
      rw [show ((many : Int) - 1).toNat + 1 = many by omega, ← hzl, List.take_length] at h1
      exact h1
    refine s_cons <| s_for G <| i_rng1 G T.range <| EvE.mono (R := fun w μ' => ∃ (c : Nat) (μ4 : List M), w = .val (.int c) ∧ (way = "tree" → c = 0) ∧ ts0.length + c ≤ 14 ∧ (0 < c → 2 ≤ many) ∧ μ' = μ4 ++ [.ml (ts0.map tieD)] ∧ Fed μ μ4 j (n + 41)) ?_ fun w μ' ⟨c, μ4, hw, hc0, hc1, hc2, hm, hF4⟩ => ?_
    · refine x_if <| t_ne <| x_v G 1 <| x_str ⟨_, .str _ _, fun hk => x_call G C1 hr (by decide) <| a_cons <| x_v G 0 <| a_cons <| x_sub <| x_int <| x_len G T.len <| x_v G 5 ⟨ts0.map tieD, .lst (.own (at4 μ3 _ hF.len)), ii <| a_nil ⟨j, n + 40, 15 - (ts0.length : Int), congrArg (fun z : Int => [W.own j, W.val (.int z)]) (show (15 : Int) - (((ts0.map tieD).length : Nat) : Int) = 15 - (ts0.length : Int) by rw [List.length_map]), hF.at_.app _, by omega, by omega, by omega, fun r μ5 hr5 hF5 => ?_⟩⟩, fun hk => x_int ⟨0, μ3, rfl, fun _ => rfl, by omega, fun h => absurd h (by omega), rfl, hF.mono (by omega)⟩⟩
      obtain ⟨μ5', rfl, hF5'⟩ := Fed.app hj3 hF5
      exact ⟨r, μ5', rfl, fun hw => (by rw [hw] at hk; exact absurd hk (by decide)), by omega, fun _ => by omega, rfl, hF.trans hF5'⟩
    subst hw hm
    refine ⟨c, rfl, by omega, by omega, fun i δ μ' => ∃ (ts : List (Str × Str)) (μ1 : List M) (t o : Option W), δ = [some (.own j), some (.val (.str way)), some (.val (.int many)), some (.val (.int shape)), some (.val (.lst (zs.map .str))), some (.own μ.length), a, b, t, o, none, none, none] ∧ μ' = μ1 ++ [.ml (ts.map tieD)] ∧ Fed μ μ1 j (n + 41 + i * 2) ∧ ts.length ≤ ts0.length + i ∧ (∀ e ∈ ts, TieOk zs e) ∧ (way = "tree" → TreeT zs.reverse ts.reverse), ⟨ts0, μ4, none, none, rfl, rfl, hF4, Nat.le_refl _, htk, htt⟩, fun _ _ _ _ _ => trivial, ?_, ?_⟩
    · rintro i d δ' μ' hd ⟨ts, μ5, t, o, rfl, rfl, hF, htl2, htk2, htt2⟩
      obtain ⟨hlt, rfl⟩ := rng_get hd
      have hlt : i < c := by omega
      have hm2 := hc2 (by omega)
      have hj5 : j < μ5.length := by rw [hF.len]; exact hjl
      refine g_name G 8 ?_
      refine s_cons <| s_set G 9 <| x_call G C1 hr (by decide) <| a_cons <| x_v G 0 <| a_cons <| x_v G 2 <| a_nil ⟨j, n + 41 + i * 2, many, rfl, hF.at_.app _, by omega, by omega, by omega, fun r μ6 hr6 hF6 => ?_⟩
      obtain ⟨μ6', rfl, hF6'⟩ := Fed.app hj5 hF6
      have hF7 := hF.trans hF6'
      have hj6 : j < μ6'.length := by rw [hF7.len]; exact hjl
      have hrm : r < many := by omega
      have gx : zs[r]? = some (zs[r]'(by omega)) := List.getElem?_eq_getElem (by omega)
      generalize zs[r]'(by omega) = x at gx
      refine s_one <| s_expr <| x_append <| x_v G 5 ⟨μ.length, rfl, ⟨_, at4 μ6' _ hF7.len⟩, x_tup <| a_cons <| x_at <| x_v G 4 <| x_v G 9 ⟨zs.map .str, (r : Int), .str x, .lst .lst, rfl, atN (by rw [List.getElem?_map, gx]; rfl), a_cons <| x_at <| x_v G 4 <| x_mod <| x_toint G T.int <| x_add <| x_add <| x_v G 9 <| x_int <| ii (i := (r : Int)) (j := 1) <| x_call G C1 hr (by decide) <| a_cons <| x_v G 0 <| a_cons <| x_sub <| x_v G 2 <| x_int <| ii (i := (many : Int)) (j := 1) <| a_nil ⟨j, n + 41 + i * 2 + 1, (many : Int) - 1, rfl, hF7.at_.app _, by omega, by omega, by omega, fun q μ8 hq8 hF8 => ii (i := (r : Int) + 1) (j := (q : Int)) ⟨_, rfl, x_v G 2 <| ii (i := (r : Int) + 1 + (q : Int)) (j := (many : Int)) ⟨by omega, ?_⟩⟩⟩⟩⟩
      obtain ⟨μ8', rfl, hF8'⟩ := Fed.app hj6 hF8
      have hF9 := hF7.trans hF8'
      have hqm : q < many - 1 := by omega
      have hmod : ((r : Int) + 1 + (q : Int)) % (many : Int) = (((r + 1 + q) % many : Nat) : Int) := by rw [Int.natCast_emod]; rfl
      have hml : (r + 1 + q) % many < many := Nat.mod_lt _ (by omega)
      have hne : r ≠ (r + 1 + q) % many := fun e => by
        by_cases hc : r + 1 + q < many
        · rw [Nat.mod_eq_of_lt hc] at e; omega
        · rw [Nat.mod_eq_sub_mod (by omega), Nat.mod_eq_of_lt (by omega)] at e; omega
      rw [hmod]
      generalize (r + 1 + q) % many = b2 at hml hne
      have gy : zs[b2]? = some (zs[b2]'(by omega)) := List.getElem?_eq_getElem (by omega)
      generalize zs[b2]'(by omega) = y at gy
      refine ⟨zs.map .str, (b2 : Int), .str y, .lst .lst, rfl, atN (by rw [List.getElem?_map, gy]; rfl), a_nil ⟨[.str x, .str y], rfl, (by show 2 ≤ 100000; decide), ts.map tieD, tieD (x, y), at4 μ8' _ hF9.len, rfl, by rw [List.length_map]; omega, ts ++ [(x, y)], μ8', _, _, rfl, ?_, hF9.mono (by omega), by rw [List.length_append]; show _ + 1 ≤ _; omega, fun e he => ?_, fun hw => ?_⟩⟩
      · rw [set4 μ8' _ _ hF9.len, List.map_append]; rfl
      · rcases List.mem_append.mp he with z | z
        · exact htk2 e z
        · rw [List.mem_singleton.mp z]
          exact ⟨List.mem_of_getElem? gx, List.mem_of_getElem? gy, nd_ne hzn gx gy hne⟩
      · have := hc0 hw
        omega
    · rintro δ' μ' ⟨ts, μ5, t, o, rfl, rfl, hF, htl2, htk2, htt2⟩
      rw [rng_length] at htl2 hF
      have hF := hF.mono (m := n + 70) (by omega)
      have htl3 : ts.length ≤ 14 := by omega
      have hj5 : j < μ5.length := by rw [hF.len]; exact hjl
      refine s_cons <| s_setLc (o := false) G [("_law_tie", 11)] 5 <| i_lst <| x_call G C3 hr (by decide) <| a_cons <| x_v G 0 <| a_cons <| x_v G 5 <| a_nil ⟨j, n + 70, _, ts.map tieD, rfl, hF.at_.app _, by omega, .lst (.own (at4 μ5 _ hF.len)), by rw [List.length_map]; omega, fun ys μ6 hp hF6 => ?_⟩
      rw [List.length_map] at hF6
      obtain ⟨us, hp1, rfl⟩ := perm_map hp
      obtain ⟨μ6', rfl, hF6'⟩ := Fed.app hj5 hF6
      have hF7 := (hF.trans hF6').mono (m := n + 84) (by omega)
      have hul : us.length = ts.length := hp1.length_eq
      refine ⟨us.map tieD, .lst, by rw [List.length_map]; omega, fun i acc μ' => ∃ (fs : List (Str × Str)) (μ7 : List M), acc = fs.map tieD ∧ fs.length = i ∧ FlL fs us ∧ μ' = μ7 ++ [.ml (ts.map tieD)] ∧ Fed μ μ7 j (n + 84 + i), ⟨[], μ6', rfl, rfl, fun _ _ h => (nomatch h), rfl, hF7⟩, fun _ _ _ _ _ => trivial, ?_, ?_⟩
      · rintro i d acc μ' hd _ ⟨fs, μ7, rfl, hfl, hff, rfl, hF8⟩
        obtain ⟨e, he, rfl⟩ := maps_get hd
        have hil : i < us.length := (List.getElem?_eq_some_iff.mp he).1
        have hj7 : j < μ7.length := by rw [hF8.len]; exact hjl
        refine fun b => c_name (G.bk rfl) 11 fun b => ts_nil ⟨fun _ b => x_if <| t_eq <| x_call (G.bk rfl) C1 hr (by decide) <| a_cons <| x_v (G.bk rfl) 0 <| a_cons <| x_int <| a_nil ⟨j, n + 84 + i, 2, rfl, hF8.at_.app _, by omega, by omega, by omega, fun r μ9 hr9 hF9 => x_int ⟨_, .int _ _, fun _ => ?_, fun _ => ?_⟩⟩, fun k => nomatch k⟩
        · obtain ⟨μ9', rfl, hF9'⟩ := Fed.app hj7 hF9
          exact x_tup <| a_cons <| x_at <| x_v (G.bk rfl) 11 <| x_int ⟨_, 1, .str e.2, .tup tupT, rfl, rfl, a_cons <| x_at <| x_v (G.bk rfl) 11 <| x_int ⟨_, 0, .str e.1, .tup tupT, rfl, rfl, a_nil ⟨[.str e.2, .str e.1], rfl, (by show 2 ≤ 100000; decide), _, rfl, fs ++ [(e.2, e.1)], μ9', by rw [List.map_append]; rfl, by rw [List.length_append, hfl]; rfl, flL_snoc hff hfl he (.inr rfl), rfl, hF8.trans hF9'⟩⟩⟩
        · obtain ⟨μ9', rfl, hF9'⟩ := Fed.app hj7 hF9
          exact x_v (G.bk rfl) 11 ⟨_, rfl, fs ++ [e], μ9', by rw [List.map_append]; rfl, by rw [List.length_append, hfl]; rfl, flL_snoc hff hfl he (.inl rfl), rfl, hF8.trans hF9'⟩
      · rintro acc μ' ⟨fs, μ7, rfl, hfl, hff, rfl, hF8⟩
        rw [List.length_map] at hfl hF8
        have hF8 := hF8.mono (m := n + 100) (by omega)
        have hj7 : j < μ7.length := by rw [hF8.len]; exact hjl
        refine s_cons <| s_set G 10 <| x_call G C4 hr (by decide) <| a_cons <| x_v G 0 <| a_cons <| x_len G T.len <| x_v G 5 ⟨fs.map tieD, .lst .lst, a_nil ⟨j, n + 100, fs.length, by rw [List.length_map], hF8.at_.app _, by omega, by omega, fun rds μ8 hrn hrl hro hF9 => ?_⟩⟩
        obtain ⟨μ8', rfl, hF9'⟩ := Fed.app hj7 hF9
        have hF10 := hF8.trans hF9'
        have hj8 : j < μ8'.length := by rw [hF10.len]; exact hjl
        refine s_one <| s_ret <| x_tup <| a_cons <| x_tux G T.tuple <| x_call G C3 hr (by decide) <| a_cons <| x_v G 0 <| a_cons <| x_v G 4 <| a_nil ⟨j, n + 100 + 14, _, zs.map .str, rfl, hF10.at_.app _, by omega, .lst .lst, by rw [List.length_map]; omega, fun ys μ9 hpp hF11 => ⟨_, .lst, ?_⟩⟩
        rw [List.length_map] at hF11
        obtain ⟨ps, hp2, rfl⟩ := perm_map hpp
        obtain ⟨μ9', rfl, hF11'⟩ := Fed.app hj8 hF11
        have hF12 := hF10.trans hF11'
        refine a_cons <| x_tuple G T.tuple <| x_lc (o := false) G [("_law_road", 12), ("_law_tie", 11)] <| lc_map zF <| i_zip G T.zip <| x_v G 10 <| x_v G 5 ⟨rds.map .str, fs.map tieD, rfl, rfl, by rw [zipD_length, List.length_map, List.length_map]; omega, trivial, fun i d hi b => ?_, ⟨_, .lst, a_nil ⟨[psD ps, rsD (rdsZ rds fs)], by rw [zip_rds rds fs]; rfl, (by show 2 ≤ 100000; decide), ?_⟩⟩⟩
        · obtain ⟨x, e, rfl⟩ := zip_get hi
          exact c_tup2 (G.bk rfl) 12 11 tupT fun b => x_catT <| x_tup <| a_cons <| x_v (G.bk rfl) 12 <| a_nil ⟨[.str x], rfl, (by show 1 ≤ 100000; decide), x_v (G.bk rfl) 11 ⟨_, _, [.str x], [.str e.1, .str e.2], rfl, rfl, tupT, tupT, (fun q => nomatch q), (fun q => nomatch q), (by show 3 ≤ 40000; decide), rfl, rfl⟩⟩
        · show R (.val _) ((μ9' ++ _).take μ.length)
          rw [List.take_left' hF12.len]
          have htk3 : ∀ e ∈ fs, TieOk zs e := fun e he => by
            obtain ⟨q, hq⟩ := List.mem_iff_getElem?.mp he
            obtain ⟨e0, h1, h2⟩ := hff q e hq
            exact flE_ok h2 (htk2 e0 (hp1.mem_iff.mp (List.mem_of_getElem? h1)))
          exact h ⟨ps, rdsZ rds fs⟩ μ9' (wok_of hzn hzo (by omega) (by omega) hp2 hrn hro hrl (by omega) htk3) (fun hw => tree_web (htt2 hw) hp1 (pairF_of rds fs us hrl (by omega) hff) hp2) (hF12.mono (by omega))
end DL
set_option Elab.async false
set_option linter.all false
set_option maxRecDepth 100000
set_option maxHeartbeats 400000
set_option pp.maxSteps 250
/-! F17: mixed things and words that stay the caller's own; _law_sized_web, _law_told_all -/
namespace DL
open PySem PySem.Spec PyProof.Rows L2
theorem ret_new {R : W → List M → Prop} {μ μ' : List M} {j n : Nat} {m : M} (hf : Fed μ μ' j n) (h : R (.own μ.length) (μ' ++ [m])) : RetR μ.length R (.own μ.length) (μ' ++ [m]) := by
  show (if μ.length < μ.length then _ else _)
  rw [if_neg (by omega)]
  refine ⟨m, by rw [← hf.len]; exact at_last, .inr ?_⟩
  rw [List.take_left' hf.len]
  exact h
def S_law_mixedO : SpecD := fun ws μ R => ∃ (j n : Nat) (w : W) (xs : List D), ws = [.own j, w] ∧ FeedAt μ j n ∧ n + 1000 < 10 ^ 9 ∧ SeqW μ w xs ∧ xs.length ≤ 1000 ∧ ∀ ys μ', ys.Perm xs → Fed μ μ' j (n + xs.length) → R (.own μ.length) (μ' ++ [.ml ys])
theorem ok_law_mixedO {m : Mo} (T : Tops m) (F : Stands m "_law_mixed" s_law_mixed) (C1 : Callee m "_law_draw" 1 S_law_draw) : Callee m "_law_mixed" 2 S_law_mixedO := by
  refine callee_of F sc_law_mixed (ps := ["_law_feed_here", "_law_things"]) (fun ws μ R h => by obtain ⟨_, _, _, _, rfl, _⟩ := h; rfl) (fun _ _ _ _ _ _ us hl => match us, hl with | [_, _], _ => rfl) fun X hm G fx hr ws μ R h => ?_
  subst hm
  obtain ⟨j, n, w, xs, rfl, hf, hn, hs, hl, h⟩ := h
  have hjl := hf.lt
  have hl1 : ∀ a : M, (μ ++ [a]).length = μ.length + 1 := fun a => by simp
  have e0 : ∀ (ps gs : List D) (μ1 : List M), μ1.length = μ.length → (μ1 ++ [M.ml ps] ++ [M.ml gs])[μ.length]? = some (.ml ps) ∧ (μ1 ++ [M.ml ps] ++ [M.ml gs])[μ.length + 1]? = some (.ml gs) := fun ps gs μ1 e => by
    rw [← e]
    exact ⟨by simp, by rw [show μ1.length + 1 = (μ1 ++ [M.ml ps]).length by simp]; exact at_last⟩
  have s0 : ∀ (ps gs : List D) (μ1 : List M) (ps' : List D), μ1.length = μ.length → (μ1 ++ [M.ml ps] ++ [M.ml gs]).set μ.length (.ml ps') = μ1 ++ [.ml ps'] ++ [.ml gs] := fun ps gs μ1 ps' e => by
    rw [← e, List.append_assoc, List.set_append_right _ _ (Nat.le_refl _)]
    simp
  have s1 : ∀ (ps gs : List D) (μ1 : List M) (gs' : List D), μ1.length = μ.length → (μ1 ++ [M.ml ps] ++ [M.ml gs]).set (μ.length + 1) (.ml gs') = μ1 ++ [.ml ps] ++ [.ml gs'] := fun ps gs μ1 gs' e => by
    rw [← e, show μ1.length + 1 = (μ1 ++ [M.ml ps]).length by simp, set_last]
  refine s_cons <| s_par G 2 3 <| x_list G T.list true <| x_v G 1 ⟨xs, hs, x_lstO <| a_nil ⟨[], rfl, Nat.zero_le _, ?_⟩⟩
  rw [hl1]
  refine s_cons <| s_for G <| i_rng1 G T.range <| x_len G T.len <| x_v G 1 ⟨xs, (hs.app _).app _, xs.length, rfl, by omega, by omega, fun i δ μ' => ∃ (ps gs : List D) (μ1 : List M) (a : Option W), δ = [some (.own j), some w, some (.own μ.length), some (.own (μ.length + 1)), a] ∧ μ' = μ1 ++ [.ml ps] ++ [.ml gs] ∧ Fed μ μ1 j (n + i) ∧ (gs ++ ps).Perm xs ∧ ps.length + i = xs.length, ⟨xs, [], μ, none, rfl, rfl, Fed.refl hf, .refl _, by simp⟩, fun _ _ _ _ _ => trivial, ?_, ?_⟩
  · rintro i d δ' μ' hd ⟨ps, gs, μ1, a, rfl, rfl, hF, hp, hpl⟩
    obtain ⟨hlt, rfl⟩ := rng_get hd
    have hlt : i < xs.length := by simpa using hlt
    have e1 := e0 ps gs μ1 hF.len
    have hj1 : j < μ1.length := by rw [hF.len]; exact hjl
    refine g_name G 4 ?_
    refine s_one <| s_expr <| x_append <| x_v G 3 ⟨μ.length + 1, rfl, ⟨_, e1.2⟩, x_popAt <| x_v G 2 ⟨μ.length, rfl, ⟨_, e1.1⟩, x_call G C1 hr (by decide) <| a_cons <| x_v G 0 <| a_cons <| x_len G T.len <| x_v G 2 ⟨ps, .lst (.own e1.1), a_nil ⟨j, n + i, ps.length, rfl, (hF.at_.app _).app _, by omega, by omega, by omega, fun r μ' hr hF2 => ?_⟩⟩⟩⟩
    have hrl : r < ps.length := by omega
    rw [List.append_assoc] at hF2
    obtain ⟨μ2, rfl, hF3⟩ := Fed.app hj1 hF2
    have hF4 := hF.trans hF3
    have e2 := e0 ps gs μ2 hF4.len
    rw [← List.append_assoc]
    refine ⟨ps, r, ps[r], e2.1, rfl, by omega, by omega, by rw [Int.toNat_natCast]; exact List.getElem?_eq_getElem hrl, ?_⟩
    rw [s0 ps gs μ2 _ hF4.len, Int.toNat_natCast]
    have e3 := e0 (ps.eraseIdx r) gs μ2 hF4.len
    have hgl : gs.length ≤ 1000 := by
      have := hp.length_eq
      rw [List.length_append] at this
      omega
    refine ⟨gs, ps[r], e3.2, rfl, by omega, ?_⟩
    refine ⟨ps.eraseIdx r, gs ++ [ps[r]], μ2, _, rfl, ?_, by rw [show n + (i + 1) = n + i + 1 by omega]; exact hF4, ?_, ?_⟩
    · rw [s1 _ _ μ2 _ hF4.len]
    · refine List.Perm.trans ?_ hp
      rw [List.append_assoc]
      exact (erase_perm (List.getElem?_eq_getElem hrl)).append_left gs
    · rw [List.length_eraseIdx_of_lt hrl]; omega
  · rintro δ' μ' ⟨ps, gs, μ1, a, rfl, rfl, hF, hp, hpl⟩
    rw [rng_length, Int.toNat_natCast] at hpl hF
    have hps : ps = [] := List.length_eq_zero_iff.mp (by omega)
    subst hps
    rw [List.append_nil] at hp
    refine s_one <| s_ret <| x_v G 3 ?_
    show (if μ.length + 1 < μ.length then _ else _)
    rw [if_neg (by omega)]
    refine ⟨.ml gs, (e0 [] gs μ1 hF.len).2, .inr ?_⟩
    rw [List.append_assoc, List.take_left' hF.len]
    exact h gs μ1 hp hF
def S_law_wordsO : SpecD := fun ws μ R => ∃ (j n : Nat), ws = [.own j] ∧ FeedAt μ j n ∧ n + 1000 < 10 ^ 9 ∧ ∀ (zs : List Str) μ', zs.Nodup → zs.length = 22 → (∀ z ∈ zs, NameOk z) → Fed μ μ' j (n + 22) → R (.own μ.length) (μ' ++ [.ml (zs.map .str)])
theorem words_bodyO {X : Cx} {k : Nat} (T : Tops (moOf X)) (C1 : Callee (moOf X) "_law_mixed" 2 S_law_mixedO) (G : GX X (defScope s_law_words) ["_law_feed_here", "_law_words_here"]) (fx : FX X) (hr : Room k X.A) (hk : 2 ≤ k) {j n : Nat} {μ : List M} {D0 : DE} (hf : FeedAt μ j n) (hn : n + 1000 < 10 ^ 9) (l : List Expr) (t : StrEs l wrds) {p1 p2 p3 p4 p5 p6 p7 p8 : Pos}
    (h : ∀ (zs : List Str) μ', zs.Perm wrds → Fed μ μ' j (n + 22) → D0.rt (.own μ.length) (μ' ++ [.ml (zs.map .str)])) : WSs X [.Assign [.Name "_law_words_here" p1] (.List l p2) p3, .Return (some (.Call (.Name "_law_mixed" p4) [.Name "_law_feed_here" p5, .Name "_law_words_here" p6] [] p7)) p8] [some (.own j), none] μ D0 := by
  refine s_cons <| s_set G 1 <| x_strs wrds (by show 22 ≤ 100000; decide) t ?_
  refine s_one <| s_ret <| x_call G C1 hr hk <| a_cons <| x_v G 0 <| a_cons <| x_v G 1 <| a_nil ⟨j, n, _, wrds.map .str, rfl, hf, hn, .lst .lst, (by show 22 ≤ 1000; decide), fun ys μ' hp hF => ?_⟩
  obtain ⟨zs, hz1, rfl⟩ := perm_map hp
  exact h zs μ' hz1 hF
theorem ok_law_wordsO {m : Mo} (T : Tops m) (F : Stands m "_law_words" s_law_words) (C1 : Callee m "_law_mixed" 2 S_law_mixedO) : Callee m "_law_words" 3 S_law_wordsO := by
  refine callee_of F sc_law_words (ps := ["_law_feed_here"]) (fun ws μ R h => by obtain ⟨_, _, rfl, _⟩ := h; rfl) (fun _ _ _ _ _ _ us hl => match us, hl with | [_], _ => rfl) fun X hm G fx hr ws μ R h => ?_
  subst hm
  obtain ⟨j, n, rfl, hf, hn, h⟩ := h
  have hh : ∀ (zs : List Str) μ', zs.Perm wrds → Fed μ μ' j (n + 22) → RetR μ.length R (.own μ.length) (μ' ++ [.ml (zs.map .str)]) := fun zs μ' hz1 hF => ret_new hF (h zs μ' (hz1.nodup_iff.mpr wrds_nd) (hz1.length_eq.trans wrds_len) (fun z hz => wrds_ok z (hz1.mem_iff.mp hz)) hF)
  refine words_bodyO T C1 G fx hr (by decide) hf hn _ ?_ ?_
  · exact strEs_of words_es
  · exact hh
/-! ### _law_sized_web -/
abbrev s_law_sized_web : Stmt := top 85
theorem sc_law_sized_web : FnScope ["_law_feed_here", "_law_way"] ["_law_feed_here", "_law_way"] (defScope s_law_sized_web) := ⟨rfl, rfl, rfl, by decide +kernel, rfl, by decide +kernel, by decide +kernel⟩
def S_law_sized_web : SpecD := fun ws μ R => ∃ (j n : Nat) (way : Str), ws = [.own j, .val (.str way)] ∧ FeedAt μ j n ∧ n + 3000 < 10 ^ 9 ∧ (way = "tree" ∨ way = "any") ∧ ∀ (w : Wb) μ', WOk w → (way = "tree" → ∃ π, TW w π) → Fed μ μ' j (n + 201) → R (.val (webD w)) μ'
theorem ok_law_sized_web {m : Mo} (T : Tops m) (F : Stands m "_law_sized_web" s_law_sized_web) (C1 : Callee m "_law_draw" 1 S_law_draw) (C2 : Callee m "_law_web" 4 S_law_web) (C3 : Callee m "_law_great_web" 4 S_law_web) : Callee m "_law_sized_web" 5 S_law_sized_web := by
  refine callee_of F sc_law_sized_web (ps := ["_law_feed_here", "_law_way"]) (fun ws μ R h => by obtain ⟨_, _, _, rfl, _⟩ := h; rfl) (fun _ _ _ _ _ _ us hl => match us, hl with | [_, _], _ => rfl) fun X hm G fx hr ws μ R h => ?_
  subst hm
  obtain ⟨j, n, way, rfl, hf, hn, hway, h⟩ := h
  refine s_one <| s_ret <| x_if <| t_eq <| x_call G C1 hr (by decide) <| a_cons <| x_v G 0 <| a_cons <| x_int <| a_nil ⟨j, n, 4, rfl, hf, by omega, by omega, by omega, fun r μ1 hr1 hF1 => x_int ⟨_, .int _ _, fun _ => ?_, fun _ => ?_⟩⟩
  · exact x_call G C3 hr (by decide) <| a_cons <| x_v G 0 <| a_cons <| x_v G 1 <| a_nil ⟨j, n + 1, way, rfl, hF1.at_, by omega, hway, fun w μ' h1 h2 hF2 => ret_own (hF1.trans hF2) (h w μ' h1 h2 ((hF1.trans hF2).mono (by omega)))⟩
  · exact x_call G C2 hr (by decide) <| a_cons <| x_v G 0 <| a_cons <| x_v G 1 <| a_nil ⟨j, n + 1, way, rfl, hF1.at_, by omega, hway, fun w μ' h1 h2 hF2 => ret_own (hF1.trans hF2) (h w μ' h1 h2 ((hF1.trans hF2).mono (by omega)))⟩
end DL
set_option Elab.async false
set_option linter.all false
set_option maxRecDepth 100000
set_option maxHeartbeats 400000
set_option pp.maxSteps 250
/-! F18: _law_told_all -/
namespace DL
open PySem PySem.Spec PyProof.Rows L2
theorem g_of : ∀ {ps vs : List Str}, ps.Nodup → ps.length ≤ vs.length → ∃ g : Str → Str, ps.map g = vs.take ps.length
  | [], _, _, _ => ⟨id, rfl⟩
  | p :: ps, [], _, h => by cases h
  | p :: ps, v :: vs, hn, h => by
    obtain ⟨g, hg⟩ := g_of (ps := ps) (vs := vs) (List.nodup_cons.mp hn).2 (Nat.le_of_succ_le_succ h)
    refine ⟨fun x => if x = p then v else g x, ?_⟩
    show (if p = p then v else g p) :: _ = v :: _
    rw [if_pos rfl, ← hg]
    refine congrArg (v :: ·) (List.map_congr_left fun x hx => ?_)
    exact if_neg fun (e : x = p) => (List.nodup_cons.mp hn).1 (e ▸ hx)
def tblD (w : Wb) (g : Str → Str) : D := .dK (w.ps.map fun p => ((Sum.inr p : Key), D.str (g p)))
theorem kget_tbl {g : Str → Str} {p : Str} : ∀ {ps : List Str}, p ∈ ps → kget (ps.map fun p => ((Sum.inr p : Key), D.str (g p))) (.inr p) = some (.str (g p))
  | [], h => by cases h
  | q :: ps, h => by
    show (if (Sum.inr q : Key) = .inr p then some (D.str (g q)) else kget _ _) = _
    by_cases e : q = p
    · rw [if_pos (by rw [e]), e]
    · rw [if_neg (fun k => e (Sum.inr.inj k))]
      exact kget_tbl ((List.mem_cons.mp h).resolve_left fun k => e k.symm)
theorem pop_get {zs : List Str} {i : Nat} (hl : zs.length = 22) (hi : i < 22) : ((zs.take (22 - i)).map D.str)[((zs.take (22 - i)).map D.str).length - 1]? = (zs.reverse[i]?).map D.str ∧ ((zs.take (22 - i)).map D.str).dropLast = (zs.take (22 - (i + 1))).map D.str := by
  have hl2 : ((zs.take (22 - i)).map D.str).length = 22 - i := by rw [List.length_map, List.length_take]; omega
  refine ⟨?_, ?_⟩
  · rw [hl2, List.getElem?_map, List.getElem?_take, if_pos (by omega), List.getElem?_reverse (by omega), hl]
    rw [show 22 - i - 1 = 22 - 1 - i by omega]
  · rw [← List.map_dropLast, List.dropLast_eq_take, List.length_take, List.take_take]
    rw [show min (min (22 - i) zs.length - 1) (22 - i) = 22 - (i + 1) by omega]
abbrev s_law_told_all : Stmt := top 86
abbrev N_law_told_all : List Str := ["_law_feed_here", "_law_web_here", "_law_moment_here", "_law_words_here", "_law_table", "_law_place"]
theorem sc_law_told_all : FnScope N_law_told_all ["_law_feed_here", "_law_web_here", "_law_moment_here"] (defScope s_law_told_all) := ⟨rfl, rfl, rfl, by decide +kernel, rfl, by decide +kernel, by decide +kernel⟩
def oneD (g : Str → Str) (p : Str) : Dd := ⟨1, 0, p, g p⟩
def S_law_told_all : SpecD := fun ws μ R => ∃ (j n : Nat) (w : Wb), ws = [.own j, .val (webD w), .val (mom 1 0)] ∧ FeedAt μ j n ∧ n + 2000 < 10 ^ 9 ∧ WOk w ∧ ∀ (g : Str → Str) (qs : List Str) μ', qs.Perm w.ps → (w.ps.map g).Nodup → (∀ p ∈ w.ps, NameOk (g p)) → Fed μ μ' j (n + 32) → R (.val (.tup [scrD (qs.map (oneD g)), tblD w g])) μ'
def toldF (g : Str → Str) : D → D := fun d => match d with | .str p => deedD (oneD g p) | _ => .non
theorem ok_law_told_all {m : Mo} (T : Tops m) (F : Stands m "_law_told_all" s_law_told_all) (C1 : Callee m "_law_mixed" 2 S_law_mixed) (C2 : Callee m "_law_words" 3 S_law_wordsO) : Callee m "_law_told_all" 4 S_law_told_all := by
  refine callee_of F sc_law_told_all (ps := ["_law_feed_here", "_law_web_here", "_law_moment_here"]) (fun ws μ R h => by obtain ⟨_, _, _, rfl, _⟩ := h; rfl) (fun _ _ _ _ _ _ us hl => match us, hl with | [_, _, _], _ => rfl) fun X hm G fx hr ws μ R h => ?_
  subst hm
  obtain ⟨j, n, w, rfl, hf, hn, ok, h⟩ := h
  have hjl := hf.lt
  have hpm := ok.pm
  refine s_cons <| s_set G 3 <| x_call G C2 hr (by decide) <| a_cons <| x_v G 0 <| a_nil ⟨j, n, rfl, hf, by omega, fun zs μ1 hzn hzl hzo hF => ?_⟩
  have hj1 : j < μ1.length := by rw [hF.len]; exact hjl
  obtain ⟨g, hg⟩ := g_of (ps := w.ps) (vs := zs.reverse) ok.pn (by rw [List.length_reverse]; omega)
  have hgi : ∀ (i : Nat) (p : Str), w.ps[i]? = some p → zs.reverse[i]? = some (g p) := fun i p hp => by
    have h1 : (w.ps.map g)[i]? = some (g p) := by rw [List.getElem?_map, hp]; rfl
    rw [hg, List.getElem?_take] at h1
    split at h1
    · exact h1
    · cases h1
  have hgm : ∀ p ∈ w.ps, g p ∈ zs := fun p hp => by
    obtain ⟨i, hi⟩ := List.mem_iff_getElem?.mp hp
    exact List.mem_reverse.mp (List.mem_of_getElem? (hgi i p hi))
  have hgn : (w.ps.map g).Nodup := by rw [hg]; exact (zs.reverse_perm.nodup_iff.mpr hzn).sublist (List.take_sublist _ _)
  have at4 : ∀ (m : M), (μ1 ++ [m])[μ.length]? = some m := fun m => by rw [← hF.len]; exact at_last
  have set4 : ∀ (m m' : M), (μ1 ++ [m]).set μ.length m' = μ1 ++ [m'] := fun m m' => by rw [← hF.len]; exact set_last
  refine s_cons <| s_set G 4 <| x_dictK G T.dict <| x_lc (o := false) G [("_law_place", 5)] <| i_tup <| x_web0 (w := w) <| x_v G 1 ⟨rfl, psD w.ps, w.ps.map .str, rfl, tuxT, by rw [List.length_map]; omega, fun i acc μ' => acc = (w.ps.take i).map (fun p => D.tup [.str p, .str (g p)]) ∧ μ' = μ1 ++ [.ml ((zs.take (22 - i)).map .str)], ⟨rfl, by rw [List.take_of_length_le (by omega)]⟩, fun _ _ _ _ _ => trivial, ?_, ?_⟩
  · rintro i d acc μ' hd _ ⟨rfl, rfl⟩
    obtain ⟨p, hp, rfl⟩ := maps_get hd
    have hil : i < w.ps.length := (List.getElem?_eq_some_iff.mp hp).1
    have hpg := pop_get (i := i) hzl (by omega)
    rw [hgi i p hp] at hpg
    refine fun b => c_name (G.bk rfl) 5 fun b => ts_nil ⟨fun _ b => x_tup <| a_cons <| x_v (G.bk rfl) 5 <| a_cons <| x_pop <| x_v (G.bk rfl) 3 ⟨μ.length, _, .str (g p), rfl, at4 _, hpg.1, a_nil ⟨[.str p, .str (g p)], rfl, (by show 2 ≤ 100000; decide), _, rfl, ?_, ?_⟩⟩, fun k => nomatch k⟩
    · rw [List.take_add_one, hp, List.map_append]; rfl
    · rw [set4, hpg.2]
  · rintro acc μ' ⟨rfl, rfl⟩
    rw [List.length_map, List.take_length]
    refine ⟨w.ps.map fun p => ((Sum.inr p : Key), D.str (g p)), ?_, ?_⟩
    · rw [List.map_map]; exact .lst
    rw [kputs_nodup (by rw [List.nil_append, List.map_map]; exact (List.pairwise_map.mpr (ok.pn.imp fun hne e => hne (Sum.inr.inj e)))), List.nil_append]
    refine s_one <| s_ret <| x_tup <| a_cons <| x_tuple G T.tuple <| x_lc (o := false) G [("_law_place", 5)] <| lc_map (toldF g) <| i_lst <| x_call G C1 hr (by decide) <| a_cons <| x_v G 0 <| a_cons <| x_web0 (w := w) <| x_v G 1 ⟨rfl, a_nil ⟨j, n + 22, _, w.ps.map .str, rfl, hF.at_.app _, by omega, .tup tuxT, by rw [List.length_map]; omega, fun ys μ2 hp hF2 => ?_⟩⟩
    rw [List.length_map] at hF2
    obtain ⟨qs, hq, rfl⟩ := perm_map hp
    obtain ⟨μ2', rfl, hF2'⟩ := Fed.app hj1 hF2
    have hF3 := hF.trans hF2'
    refine ⟨qs.map .str, .lst, by rw [List.length_map, hq.length_eq]; omega, trivial, fun i d hi b => ?_, ⟨_, .lst, a_cons <| x_v G 4 <| a_nil ⟨[scrD (qs.map (oneD g)), tblD w g], ?_, (by show 2 ≤ 100000; decide), ?_⟩⟩⟩
    · obtain ⟨p, hp, rfl⟩ := maps_get hi
      exact c_name (G.bk rfl) 5 fun b => x_tup <| a_cons <| x_str <| a_cons <| x_v (G.bk rfl) 2 <| a_cons <| x_v (G.bk rfl) 5 <| a_cons <| x_dget hr <| x_v (G.bk rfl) 4 <| x_v (G.bk rfl) 5 ⟨.str (g p), by rw [← kget_tbl (hq.mem_iff.mp (List.mem_of_getElem? hp))]; exact .k .dat, a_nil ⟨[.str "tell", mom 1 0, .str p, .str (g p)], rfl, (by show 4 ≤ 100000; decide), rfl, rfl⟩⟩
    · rw [List.map_map]
      unfold scrD
      rw [List.map_map]
      rfl
    · show R (.val _) ((μ2' ++ _).take μ.length)
      rw [List.take_left' hF3.len]
      exact h g qs μ2' hq hgn (fun p hp => hzo _ (hgm p hp)) (hF3.mono (by omega))
end DL
set_option Elab.async false
set_option linter.all false
set_option maxRecDepth 100000
set_option maxHeartbeats 400000
set_option pp.maxSteps 250
/-! F19: _law_script, where every deed tells -/
namespace DL
open PySem PySem.Spec PyProof.Rows L2
open PySem.W (dataLe dataLt alike alikeAll AllAlike Sortable)
def momP (x : Int × Int) : D := mom x.1 x.2
def sortM (l : List (Int × Int)) : List (Int × Int) := l.mergeSort (dataLe false fun x => py (momP x))
theorem sortM_eq (l : List (Int × Int)) : sortD (l.map momP) = (sortM l).map momP := (PySem.W.sort_maps momP fun _ _ _ _ => rfl).symm
theorem sortM_perm (l : List (Int × Int)) : (sortM l).Perm l := List.mergeSort_perm _ _
theorem moms_ok (l : List (Int × Int)) : pls (l.map momP) = true ∧ AllAlike ((l.map momP).map py) ∧ Sortable ((l.map momP).map py) ∧ ∀ d ∈ l.map momP, (py d).depth ≤ 50 := by
  refine ⟨?_, ?_, ?_, ?_⟩
  · induction l with
    | nil => rfl
    | cons r l ih => show (pl (momP r) && pls (l.map momP)) = true; rw [ih]; rfl
  · rw [List.map_map]
    exact PySem.W.AllAlike.of fun a b => by simp [momP, mom, py, pys, alike, alikeAll]
  · rw [List.map_map]
    exact PySem.W.Sortable.tuples fun a => ⟨_, _, rfl⟩
  · intro d hd
    obtain ⟨r, _, rfl⟩ := List.mem_map.mp hd
    exact depth_mom _ _
theorem sortM_up (l : List (Int × Int)) : ∀ (j : Nat) (x y : Int × Int), (sortM l)[j]? = some x → (sortM l)[j + 1]? = some y → mle x y = true := fun j x y hx hy => by
  have hle : (dataLe false fun x => py (momP x)) = fun p q : Int × Int => decide (p.1 < q.1 ∨ (p.1 = q.1 ∧ p.2 ≤ q.2)) := PySem.W.dataLe_ii (fun p : Int × Int => p.1) (fun p => p.2)
  have hp : (sortM l).Pairwise fun p q => (fun p q : Int × Int => decide (p.1 < q.1 ∨ (p.1 = q.1 ∧ p.2 ≤ q.2))) p q = true := by
    unfold sortM
    rw [hle]
    refine List.pairwise_mergeSort (fun a b c h1 h2 => ?_) (fun a b => ?_) l
    · have h1 := of_decide_eq_true h1
      have h2 := of_decide_eq_true h2
      exact decide_eq_true (by omega)
    · rw [Bool.or_eq_true, decide_eq_true_eq, decide_eq_true_eq]
      omega
  have hx' := List.getElem?_eq_some_iff.mp hx
  have hy' := List.getElem?_eq_some_iff.mp hy
  have := List.pairwise_iff_getElem.mp hp j (j + 1) hx'.1 hy'.1 (by omega)
  rw [hx'.2, hy'.2] at this
  have := of_decide_eq_true this
  unfold mle
  rw [Bool.not_eq_true', decide_eq_false_iff_not]
  omega
theorem at_neg1 {xs : List D} {d : D} : atI (xs ++ [d]) (-1) = some d := by
  have e : ixN (xs ++ [d]).length (-1) = some xs.length := by
    unfold ixN
    rw [List.length_append, if_neg (by omega), if_pos (by show -((xs.length + 1 : Nat) : Int) ≤ -1; omega)]
    refine congrArg some ?_
    show ((-1 : Int) + ((xs.length + 1 : Nat) : Int)).toNat = xs.length
    omega
  unfold atI
  rw [e]
  show (xs ++ [d])[xs.length]? = some d
  simp
theorem at3 {μ : List M} {a b c : M} : (μ ++ [a, b, c])[μ.length]? = some a ∧ (μ ++ [a, b, c])[μ.length + 1]? = some b ∧ (μ ++ [a, b, c])[μ.length + 2]? = some c := ⟨by simp, by simp, by simp⟩
theorem set3 {μ : List M} {a b c a' : M} : (μ ++ [a, b, c]).set μ.length a' = μ ++ [a', b, c] ∧ (μ ++ [a, b, c]).set (μ.length + 1) a' = μ ++ [a, a', c] ∧ (μ ++ [a, b, c]).set (μ.length + 2) a' = μ ++ [a, b, a'] := by
  refine ⟨?_, ?_, ?_⟩ <;> rw [List.set_append_right _ _ (by omega)] <;> simp
abbrev s_law_script : Stmt := top 81
abbrev N_law_script : List Str := ["_law_feed_here", "_law_web_here", "_law_week_here", "_law_most", "_law_kinds", "_law_moments", "_law_words_here", "_law_told", "_law_deeds", "_law_moment_here", "_law_way", "_law_place", "_law_turn", "_law_one_here"]
theorem sc_law_script : FnScope N_law_script ["_law_feed_here", "_law_web_here", "_law_week_here", "_law_most", "_law_kinds"] (defScope s_law_script) := ⟨rfl, rfl, rfl, by decide +kernel, rfl, by decide +kernel, by decide +kernel⟩
def S_law_script : SpecD := fun ws μ R => ∃ (j n : Nat) (w : Wb) (k : List (List Str)), ws = [.own j, .val (webD w), .val (weekD k), .val (.int 12), .val (.lst [.int 0])] ∧ FeedAt μ j n ∧ n + 3000 < 10 ^ 9 ∧ WOk w ∧ KOk w k ∧ ∀ (s : List Dd) μ', SOk w k s → Fed μ μ' j (n + 100) → R (.val (scrD s)) μ'
theorem ok_law_script {m : Mo} (T : Tops m) (F : Stands m "_law_script" s_law_script) (C1 : Callee m "_law_draw" 1 S_law_draw) (C2 : Callee m "_law_one" 2 S_law_one) (C3 : Callee m "_law_moment" 2 S_law_moment) (C4 : Callee m "_law_words" 3 S_law_wordsO) : Callee m "_law_script" 4 S_law_script := by
  refine callee_of F sc_law_script (ps := ["_law_feed_here", "_law_web_here", "_law_week_here", "_law_most", "_law_kinds"]) (fun ws μ R h => by obtain ⟨_, _, _, _, rfl, _⟩ := h; rfl) (fun _ _ _ _ _ _ us hl => match us, hl with | [_, _, _, _, _], _ => rfl) fun X hm G fx hr ws μ R h => ?_
  subst hm
  obtain ⟨j, n, w, k, rfl, hf, hn, ok, kk, h⟩ := h
  have hjl := hf.lt
  have hpm := ok.pm
  refine s_cons <| s_set G 5 <| x_sorted G hr T.sorted false <| x_lc (o := false) G [("_law_turn", 12)] <| i_rng1 G T.range <| x_call G C1 hr (by decide) <| a_cons <| x_v G 0 <| a_cons <| x_add <| x_v G 3 <| x_int <| ii (i := 12) (j := 1) <| a_nil ⟨j, n, 12 + 1, rfl, hf, by omega, by omega, by omega, fun r μ1 hr1 hF1 => ⟨r, rfl, by omega, by omega, by rw [rng_length]; omega, fun i acc μ' => ∃ ms : List (Int × Int), acc = ms.map momP ∧ ms.length = i ∧ (∀ x ∈ ms, MomOk k x.1 x.2) ∧ Fed μ μ' j (n + 1 + i * 3), ⟨[], rfl, rfl, fun _ h => (nomatch h), hF1⟩, fun _ _ _ _ _ => trivial, ?_, ?_⟩⟩
  · rintro i d acc μ' hd _ ⟨ms, rfl, hml, hmo, hF⟩
    obtain ⟨hlt, rfl⟩ := rng_get hd
    refine fun b => c_name (G.bk rfl) 12 fun b => ts_nil ⟨fun _ b => x_call (G.bk rfl) C3 hr (by decide) <| a_cons <| x_v (G.bk rfl) 0 <| a_cons <| x_v (G.bk rfl) 2 <| a_nil ⟨j, n + 1 + i * 3, k, rfl, hF.at_, by omega, kk.lo, fun r hr => ?_, fun d i2 μ2 hm hF2 => ⟨_, rfl, ms ++ [(d, i2)], by rw [List.map_append]; rfl, by rw [List.length_append, hml]; rfl, fun x hx => ?_, (hF.trans hF2).mono (by omega)⟩⟩, fun k => nomatch k⟩
    · have := nodup_sub_len (kk.nd r hr) (kk.inn r hr)
      rw [List.length_map] at this
      have := ok.rm
      omega
    · rcases List.mem_append.mp hx with z | z
      · exact hmo x z
      · rw [List.mem_singleton.mp z]; exact hm
  · rintro acc μ2 ⟨ms, rfl, hml, hmo, hF⟩
    rw [rng_length] at hml hF
    have hmk := moms_ok ms
    refine ⟨_, .lst, hmk.1, hmk.2.1, hmk.2.2.1, by rw [List.length_map]; omega, hmk.2.2.2, ?_⟩
    show DE.nx _ _ _
    rw [sortM_eq]
    have hsp := sortM_perm ms
    have hup := sortM_up ms
    have hsl : (sortM ms).length = r := by rw [hsp.length_eq, hml, Int.toNat_natCast]
    have hso : ∀ x ∈ sortM ms, MomOk k x.1 x.2 := fun x hx => hmo x (hsp.mem_iff.mp hx)
    generalize sortM ms = so at hup hsl hso
    have hF := hF.mono (m := n + 40) (by omega)
    refine s_cons <| s_par3 G 6 7 8 <| x_call G C4 hr (by decide) <| a_cons <| x_v G 0 <| a_nil ⟨j, n + 40, rfl, hF.at_, by omega, fun zs μ3 hzn hzl hzo hF3 => x_lstO <| a_nil ⟨[], rfl, Nat.zero_le _, x_lstO <| a_nil ⟨[], rfl, Nat.zero_le _, ?_⟩⟩⟩
    have hF3 := hF.trans hF3
    rw [show μ3 ++ [M.ml (zs.map .str)] ++ [M.ml []] ++ [M.ml []] = μ3 ++ [M.ml (zs.map .str), M.ml [], M.ml []] by simp, show (μ3 ++ [M.ml (zs.map .str)] ++ [M.ml []]).length = μ.length + 2 by simp [hF3.len], show (μ3 ++ [M.ml (zs.map .str)]).length = μ.length + 1 by simp [hF3.len], hF.len]
    refine s_cons <| s_for G <| i_lst <| x_v G 5 ⟨so.map momP, .lst, fun i δ μ' => ∃ (s : List Dd) (to : List D) (μ1 : List M) (a b c : Option W), δ = [some (.own j), some (.val (webD w)), some (.val (weekD k)), some (.val (.int 12)), some (.val (.lst [.int 0])), some (.val (.lst (so.map momP))), some (.own μ.length), some (.own (μ.length + 1)), some (.own (μ.length + 2)), a, b, c, none, none] ∧ μ' = μ1 ++ [.ml ((zs.take (22 - i)).map .str), .ml to, .ml (s.map deedD)] ∧ Fed μ μ1 j (n + 62 + i * 2) ∧ s.map (fun x => (x.d, x.i)) = so.take i ∧ (∀ x ∈ s, x.p ∈ w.ps) ∧ s.map (·.wd) = zs.reverse.take i ∧ to.length = i, ⟨[], [], μ3, none, none, none, rfl, by rw [List.take_of_length_le (by omega)]; rfl, hF3.mono (by omega), rfl, fun _ h => (nomatch h), rfl, rfl⟩, fun _ _ _ _ _ => trivial, ?_, ?_⟩
    · rintro i d δ' μ' hd ⟨s, to, μ4, a, b, c, rfl, rfl, hF4, hs1, hs2, hs3, hto⟩
      obtain ⟨x, hx, rfl⟩ := maps_get hd
      have hil : i < so.length := (List.getElem?_eq_some_iff.mp hx).1
      have hsln : s.length = i := by
        have := congrArg List.length hs1
        rw [List.length_map, List.length_take] at this
        omega
      have hj4 : j < μ4.length := by rw [hF4.len]; exact hjl
      refine g_name G 9 ?_
      refine s_cons <| s_asg (hw := (by have h9 := G.esc; revert h9; generalize X.env = env; intro h9; cases env; cases h9; rfl)) <| x_tup <| a_cons <| x_call G C2 hr (by decide) <| a_cons <| x_v G 0 <| a_cons <| x_v G 4 <| a_nil ⟨j, n + 62 + i * 2, _, [.int 0], rfl, hF4.at_.app _, by omega, .inr rfl, (fun q => nomatch q), (by show 1 ≤ 1000; decide), fun y hy μ5 hF5 => a_cons <| x_call G C2 hr (by decide) <| a_cons <| x_v G 0 <| a_cons <| x_web0 (w := w) <| x_v G 1 ⟨rfl, a_nil ⟨j, n + 62 + i * 2 + 1, psD w.ps, w.ps.map .str, rfl, hF5.at_, by omega, .inl tuxT, ?_, by rw [List.length_map]; omega, fun pd hpd μ6 hF6 => a_nil ⟨[y, pd], rfl, (by show 2 ≤ 100000; decide), g_tup2 G 10 11 tupT ?_⟩⟩⟩⟩
      · intro e
        have h1 := ok.pl
        rw [List.map_eq_nil_iff.mp e] at h1
        exact absurd h1 (by decide)
      rw [List.mem_singleton.mp hy]
      obtain ⟨p, hp, rfl⟩ := List.mem_map.mp hpd
      obtain ⟨μ6', rfl, hF6'⟩ := Fed.app hj4 (hF5.trans hF6)
      have hF7 := hF4.trans hF6'
      have a3 := fun (a b c : M) => at3 (μ := μ6') (a := a) (b := b) (c := c)
      have s3 := fun (a b c a' : M) => set3 (μ := μ6') (a := a) (b := b) (c := c) (a' := a')
      rw [hF7.len] at a3 s3
      refine s_one <| s_if <| t_and <| t_eq <| x_v G 10 <| x_int ⟨_, .int 0 2, fun k => absurd k (by decide), fun _ => ⟨fun k => (nomatch k), fun _ => s_one <| s_if <| t_and <| t_eq <| x_v G 10 <| x_int ⟨_, .int 0 3, fun k => absurd k (by decide), fun _ => ⟨fun k => (nomatch k), fun _ => ?_⟩⟩⟩⟩
      have hpg := pop_get (i := i) hzl (by omega)
      obtain ⟨z, hz⟩ : ∃ z, zs.reverse[i]? = some z := ⟨_, List.getElem?_eq_getElem (by rw [List.length_reverse]; omega)⟩
      rw [hz] at hpg
      refine s_cons <| s_expr <| x_append <| x_v G 7 ⟨μ.length + 1, rfl, ⟨_, (a3 _ _ _).2.1⟩, x_pop <| x_v G 6 ⟨μ.length, _, .str z, rfl, (a3 _ _ _).1, hpg.1, ?_⟩⟩
      rw [(s3 _ _ _ _).1, hpg.2]
      refine ⟨to, .str z, (a3 _ _ _).2.1, rfl, by omega, ?_⟩
      rw [(s3 _ _ _ _).2.1]
      refine s_one <| s_expr <| x_append <| x_v G 8 ⟨μ.length + 2, rfl, ⟨_, (a3 _ _ _).2.2⟩, x_tup <| a_cons <| x_str <| a_cons <| x_v G 9 <| a_cons <| x_v G 11 <| a_cons <| x_at <| x_v G 7 <| x_neg <| x_int ⟨1, rfl, to ++ [.str z], -1, .str z, .lst (.own (a3 _ _ _).2.1), rfl, ?_, a_nil ⟨[.str "tell", mom x.1 x.2, .str p, .str z], rfl, (by show 4 ≤ 100000; decide), s.map deedD, deedD ⟨x.1, x.2, p, z⟩, (a3 _ _ _).2.2, rfl, by rw [List.length_map]; omega, s ++ [⟨x.1, x.2, p, z⟩], to ++ [.str z], μ6', _, _, _, rfl, ?_, hF7.mono (by omega), ?_, fun y hy => ?_, ?_, by rw [List.length_append, hto]; rfl⟩⟩⟩
      · exact at_neg1
      · rw [(s3 _ _ _ _).2.2, List.map_append]; rfl
      · rw [List.map_append, hs1, List.take_add_one, hx]; rfl
      · rcases List.mem_append.mp hy with q | q
        · exact hs2 y q
        · rw [List.mem_singleton.mp q]; exact hp
      · rw [List.map_append, hs3, List.take_add_one, hz]; rfl
    · rintro δ' μ' ⟨s, to, μ4, a, b, c, rfl, rfl, hF4, hs1, hs2, hs3, hto⟩
      rw [List.length_map] at hF4 hs1 hs3
      rw [List.take_length] at hs1
      have hsln : s.length = so.length := by rw [← hs1, List.length_map]
      have a3 := at3 (μ := μ4) (a := M.ml ((zs.take (22 - (so.map momP).length)).map .str)) (b := .ml to) (c := .ml (s.map deedD))
      rw [hF4.len] at a3
      refine s_one <| s_ret <| x_tuple G T.tuple <| x_v G 8 ⟨s.map deedD, .own a3.2.2, ?_⟩
      show R (.val _) ((μ4 ++ _).take μ.length)
      rw [List.take_left' hF4.len]
      have hzs : ∀ x ∈ s, x.wd ∈ zs := fun x hx => by
        have : x.wd ∈ s.map (·.wd) := List.mem_map.mpr ⟨x, hx, rfl⟩
        rw [hs3] at this
        exact List.mem_reverse.mp (List.mem_of_mem_take this)
      refine h s μ4 ⟨by omega, fun x hx => ⟨hso (x.d, x.i) (by rw [← hs1]; exact List.mem_map.mpr ⟨x, hx, rfl⟩), hs2 x hx, hzo _ (hzs x hx)⟩, by rw [hs3]; exact (zs.reverse_perm.nodup_iff.mpr hzn).sublist (List.take_sublist _ _), fun j x y hx hy => hup j _ _ (by rw [← hs1, List.getElem?_map, hx]; rfl) (by rw [← hs1, List.getElem?_map, hy]; rfl)⟩ (hF4.mono (by omega))
end DL
set_option Elab.async false
set_option linter.all false
set_option maxRecDepth 100000
set_option maxHeartbeats 400000
set_option pp.maxSteps 250
/-! M6: on a tree with one round, all is heard by day 12, and the table of what is heard. -/
namespace DL
open PySem
theorem kget_of_mem {κ β : Type} [DecidableEq κ] {k : κ} {v : β} : ∀ {ds : List (κ × β)}, (ds.map Prod.fst).Nodup → (k, v) ∈ ds → kget ds k = some v
  | [], _, h => by cases h
  | p :: r, hn, h => by
    have hn := List.nodup_cons.mp hn
    show (if p.1 = k then some p.2 else kget r k) = _
    rcases List.mem_cons.mp h with e | e
    · rw [← e, if_pos rfl]
    · rw [if_neg fun q => hn.1 (by rw [q]; exact List.mem_map.mpr ⟨_, e, rfl⟩)]
      exact kget_of_mem hn.2 e
section
variable {w : Wb} {π : Str → Str → List Str} {rt : List Str}
theorem kok_one (hr : Rota w rt) (ok : WOk w) : KOk w [rt] := by
  refine ⟨Nat.le_refl _, by show 1 ≤ 4; decide, fun r h => ?_, fun r h x hx => ?_⟩
  · rw [List.mem_singleton.mp h]; exact hr.p.nodup_iff.mpr ok.rn
  · rw [List.mem_singleton.mp h] at hx; exact hr.p.mem_iff.mp hx
theorem com_tree (ok : WOk w) (t : TW w π) (hr : Rota w rt) {a : Str} (ha : a ∈ w.ps) {j : Int} (hj : 0 ≤ j) : comL w [rt] a 1 0 12 j = w.ps.map fun q => some (Fm rt π a q) := by
  unfold comL arrL
  rw [if_pos (by unfold mle; rw [Bool.not_eq_true', decide_eq_false_iff_not]; show ¬((12 : Int) < 1 ∨ ((12 : Int) = 1 ∧ j < 0)); omega), List.map_map]
  refine List.map_congr_left fun q hq => ?_
  show Option.filter _ (kget _ _) = _
  rw [arr_tree ok t hr ha (kok_one hr ok) q hq, Option.filter_some, if_pos]
  have := fm_le (rt := rt) ok t ha hq
  unfold mle
  rw [Bool.not_eq_true', decide_eq_false_iff_not]
  show ¬((12 : Int) < (Fm rt π a q).1 ∨ ((12 : Int) = (Fm rt π a q).1 ∧ _))
  omega
/-- what a row says: who hears what, and the day -/
def hrd (ps : List Str) (r : Row) : (Str × Str) × Int := ((r.2.2, ps.getD r.2.1 Str.empty), r.1.1)
theorem hrd_rows (wd : Str) (f : Str → Int × Int) (ps : List Str) : ∀ (l pre : List Str), ps = pre ++ l → (rowsFrom wd pre.length (l.map fun q => some (f q))).map (hrd ps) = l.map fun q => ((wd, q), (f q).1)
  | [], _, _ => rfl
  | q :: l, pre, e => by
    have ih := hrd_rows wd f ps l (pre ++ [q]) (by rw [e]; simp)
    rw [List.length_append] at ih
    show hrd ps (f q, pre.length, wd) :: _ = _ :: _
    rw [show (rowsFrom wd (pre.length + 1) (l.map fun q => some (f q))).map (hrd ps) = _ from ih]
    refine congrArg (· :: _) ?_
    unfold hrd
    rw [e]
    simp
def hrdL (w : Wb) (rt : List Str) (π : Str → Str → List Str) (g : Str → Str) (qs : List Str) : List ((Str × Str) × Int) := qs.flatMap fun a => w.ps.map fun q => ((g a, q), (Fm rt π a q).1)
theorem hap_tree (ok : WOk w) (t : TW w π) (hr : Rota w rt) {g : Str → Str} {j : Int} (hj : 0 ≤ j) : ∀ {qs : List Str}, (∀ q ∈ qs, q ∈ w.ps) → (hapT w [rt] (qs.map (oneD g)) 12 j).map (hrd w.ps) = hrdL w rt π g qs
  | [], _ => rfl
  | a :: qs, h => by
    have ih := hap_tree ok t hr (g := g) hj (qs := qs) fun q hq => h q (List.mem_cons_of_mem _ hq)
    unfold hapT hrdL at ih ⊢
    rw [List.map_cons, List.flatMap_cons, List.flatMap_cons, List.map_append, ih]
    refine congrArg (· ++ _) ?_
    show (rowsFrom (g a) 0 (comL w [rt] a 1 0 12 j)).map (hrd w.ps) = _
    rw [com_tree ok t hr (h a List.mem_cons_self) hj]
    exact hrd_rows (g a) _ w.ps w.ps [] rfl
theorem hrd_nd {g : Str → Str} (hps : w.ps.Nodup) : ∀ {qs : List Str}, (qs.map g).Nodup → ((hrdL w rt π g qs).map Prod.fst).Nodup
  | [], _ => List.nodup_nil
  | a :: qs, h => by
    have h := List.nodup_cons.mp h
    have ih := hrd_nd (g := g) hps h.2
    unfold hrdL at ih ⊢
    rw [List.flatMap_cons, List.map_append, List.nodup_append]
    refine ⟨?_, ih, ?_⟩
    · rw [List.map_map]
      exact List.pairwise_map.mpr (hps.imp fun hne e => hne (congrArg (fun z : Str × Str => z.2) e))
    · intro x hx y hy e
      subst e
      rw [List.map_map] at hx
      obtain ⟨q, _, rfl⟩ := List.mem_map.mp hx
      obtain ⟨z, hz, hz2⟩ := List.mem_map.mp hy
      obtain ⟨b, hb, hz⟩ := List.mem_flatMap.mp hz
      obtain ⟨q2, _, rfl⟩ := List.mem_map.mp hz
      exact h.1 (List.mem_map.mpr ⟨b, hb, congrArg (fun z : Str × Str => z.1) hz2⟩)
theorem hrd_len {g : Str → Str} : ∀ {qs : List Str}, (hrdL w rt π g qs).length = qs.length * w.ps.length
  | [] => by simp [hrdL]
  | a :: qs => by
    have ih := hrd_len (g := g) (qs := qs)
    unfold hrdL at ih ⊢
    rw [List.flatMap_cons, List.length_append, ih, List.length_map, List.length_cons, Nat.succ_mul, Nat.add_comm]
theorem hrd_mem {g : Str → Str} {qs : List Str} {a q : Str} (ha : a ∈ qs) (hq : q ∈ w.ps) : ((g a, q), (Fm rt π a q).1) ∈ hrdL w rt π g qs :=
  List.mem_flatMap.mpr ⟨a, ha, List.mem_map.mpr ⟨q, hq, rfl⟩⟩
/-- the table of the sorted rows -/
theorem tree_table (ok : WOk w) (t : TW w π) (hr : Rota w rt) {g : Str → Str} {qs : List Str} (hq : qs.Perm w.ps) (hg : (w.ps.map g).Nodup) : ∃ hl : List ((Str × Str) × Int), hl = (rwsT w [rt] (qs.map (oneD g)) 12).map (hrd w.ps) ∧ (hl.map Prod.fst).Nodup ∧ hl.length = w.ps.length * w.ps.length ∧ ∀ a ∈ w.ps, ∀ b ∈ w.ps, kget hl (g a, b) = some (Fm rt π a b).1 := by
  have hp : ((rwsT w [rt] (qs.map (oneD g)) 12).map (hrd w.ps)).Perm (hrdL w rt π g qs) := by
    rw [← hap_tree ok t hr (j := ((rndOf [rt] 12).length : Int)) (by omega) fun q h => hq.mem_iff.mp h]
    exact (List.mergeSort_perm _ _).map _
  have hn : ((hrdL w rt π g qs).map Prod.fst).Nodup := hrd_nd ok.pn ((hq.map g).nodup_iff.mpr hg)
  have hn2 := (hp.map Prod.fst).nodup_iff.mpr hn
  refine ⟨_, rfl, hn2, ?_, fun a ha b hb => kget_of_mem hn2 (hp.mem_iff.mpr (hrd_mem (hq.mem_iff.mpr ha) hb))⟩
  rw [hp.length_eq, hrd_len, hq.length_eq]
end
end DL
set_option Elab.async false
set_option linter.all false
set_option maxRecDepth 100000
set_option maxHeartbeats 400000
set_option pp.maxSteps 250
/-! F20: _law_tree_right -/
namespace DL
open PySem PySem.Spec PyProof.Rows L2
def hKey (x : Str × Str) : List Key := [.inr x.1, .inr x.2]
theorem hKey_inj : ∀ {x y : Str × Str}, hKey x = hKey y → x = y := fun {x y} h => by
  unfold hKey at h
  injection h with h1 h2
  injection h2 with h2 h3
  exact Prod.ext (Sum.inr.inj h1) (Sum.inr.inj h2)
def hrdD (hl : List ((Str × Str) × Int)) : List (List Key × D) := hl.map fun x => (hKey x.1, D.int x.2)
theorem hrdD_get {hl : List ((Str × Str) × Int)} {x : Str × Str} {v : Int} (h : kget hl x = some v) : kget (hrdD hl) (hKey x) = some (.int v) := by
  have := kget_map hKey (fun {a b} => hKey_inj) D.int x hl
  unfold hrdD
  rw [this, h]
  rfl
abbrev s_law_tree_right : Stmt := top 87
abbrev N_law_tree_right : List Str := ["_law_feed_here", "_law_web_here", "_law_rota_here", "_law_script_here", "_law_table", "_law_heard", "_law_one_here", "_law_other", "_law_there", "_law_back", "_law_row"]
theorem sc_law_tree_right : FnScope N_law_tree_right ["_law_feed_here"] (defScope s_law_tree_right) := ⟨rfl, rfl, rfl, by decide +kernel, rfl, by decide +kernel, by decide +kernel⟩
def S_law_right : SpecD := fun ws μ R => ∃ (j n : Nat), ws = [.own j] ∧ FeedAt μ j n ∧ n + 5000 < 10 ^ 9 ∧ ∀ μ', Fed μ μ' j (n + 1000) → R (.val (.bl true)) μ'
def hrF : D → D := fun d => match d with | .tup [.tup [.int a, _], _, p, q] => .tup [.tup [q, p], .int a] | _ => .non
theorem ok_law_tree_right {m : Mo} (T : Tops m) (F : Stands m "_law_tree_right" s_law_tree_right) (C1 : Callee m "_law_sized_web" 5 S_law_sized_web) (C2 : Callee m "_law_rota" 3 S_law_rota) (C3 : Callee m "_law_told_all" 4 S_law_told_all) (C4 : Callee m "run_script" 7 S_run_script) (C5 : Callee m "distance" 5 S_distance) : Callee m "_law_tree_right" 8 S_law_right := by
  refine callee_of F sc_law_tree_right (ps := ["_law_feed_here"]) (fun ws μ R h => by obtain ⟨_, _, rfl, _⟩ := h; rfl) (fun _ _ _ _ _ _ us hl => match us, hl with | [_], _ => rfl) fun X hm G fx hr ws μ R h => ?_
  subst hm
  obtain ⟨j, n, rfl, hf, hn, h⟩ := h
  have hjl := hf.lt
  refine s_cons <| s_set G 1 <| x_call G C1 hr (by decide) <| a_cons <| x_v G 0 <| a_cons <| x_str <| a_nil ⟨j, n, "tree", rfl, hf, by omega, .inl rfl, fun w μ1 ok ht hF1 => ?_⟩
  obtain ⟨π, t⟩ := ht rfl
  have hpm := ok.pm
  refine s_cons <| s_set G 2 <| x_call G C2 hr (by decide) <| a_cons <| x_v G 0 <| a_cons <| x_v G 1 <| a_nil ⟨j, n + 201, w, rfl, hF1.at_, by omega, ok.rm, fun rt μ2 hrt hF2 => ?_⟩
  have hR : Rota w rt := ⟨hrt, hrt.nodup_iff.mpr ok.rn⟩
  have hF2' := hF1.trans hF2
  refine s_cons <| s_asg <| x_call G C3 hr (by decide) <| a_cons <| x_v G 0 <| a_cons <| x_v G 1 <| a_cons <| x_tup <| a_cons <| x_int <| a_cons <| x_int <| a_nil ⟨[.int 1, .int 0], rfl, (by show 2 ≤ 100000; decide), a_nil ⟨j, n + 201 + 14, w, rfl, hF2'.at_, by omega, ok, fun g qs μ3 hq hg hgo hF3 => g_tup2 G 3 4 tupT ?_⟩⟩
  have hF := (hF2'.trans hF3).mono (m := n + 1000) (by omega)
  have kk := kok_one hR ok
  have hqm : ∀ q ∈ qs, q ∈ w.ps := fun q hq' => hq.mem_iff.mp hq'
  have hsl : (qs.map (oneD g)).length ≤ 20 := by rw [List.length_map, hq.length_eq]; omega
  have hS : SOk w [rt] (qs.map (oneD g)) := by
    refine ⟨hsl, fun x hx => ?_, ?_, fun a x y hx hy => ?_⟩
    · obtain ⟨q, hq', rfl⟩ := List.mem_map.mp hx
      exact ⟨⟨Int.le_refl _, (by show (1 : Int) ≤ 1000000; decide), Int.le_refl _, Int.natCast_nonneg _⟩, hqm q hq', hgo q (hqm q hq')⟩
    · rw [List.map_map]
      exact (hq.map g).nodup_iff.mpr hg
    · rw [List.getElem?_map] at hx hy
      cases hx' : qs[a]? with
      | none => rw [hx'] at hx; cases hx
      | some p =>
        cases hy' : qs[a + 1]? with
        | none => rw [hy'] at hy; cases hy
        | some q => rw [hx'] at hx; rw [hy'] at hy; cases hx; cases hy; rfl
  obtain ⟨hl, hl1, hl2, hl3, hl4⟩ := tree_table ok t hR hq hg
  have hrl := rwsT_len (k := [rt]) ok hsl (c := 12)
  have htd := t
  refine s_cons <| s_set G 5 <| x_dictT G hr T.dict <| x_lc (o := false) G [("_law_row", 10)] <| lc_map hrF <| i_lst <| x_call G C4 hr (by decide) <| a_cons <| x_v G 1 <| a_cons <| x_tup <| a_cons <| x_v G 2 <| a_nil ⟨[rowD rt], rfl, (by show 1 ≤ 100000; decide), a_cons <| x_v G 3 <| a_cons <| x_int <| a_nil ⟨w, [rt], qs.map (oneD g), 12, rfl, ok, kk, hS, (by decide), (by decide), _, .lst, by rw [List.length_map]; exact hrl, trivial, fun i d hi b => ?_, ?_⟩⟩
  · obtain ⟨r, _, rfl⟩ := maps_get hi
    exact c_name (G.bk rfl) 10 fun b => x_tup <| a_cons <| x_tup <| a_cons <| x_at <| x_v (G.bk rfl) 10 <| x_int ⟨_, 3, _, .tup tupT, rfl, rfl, a_cons <| x_at <| x_v (G.bk rfl) 10 <| x_int ⟨_, 2, _, .tup tupT, rfl, rfl, a_nil ⟨[_, _], rfl, (by show 2 ≤ 100000; decide), a_cons <| x_at <| x_at <| x_v (G.bk rfl) 10 <| x_int ⟨_, 0, mom r.1.1 r.1.2, .tup tupT, rfl, rfl, x_int ⟨_, 0, .int r.1.1, .tup tupT, rfl, rfl, a_nil ⟨[_, .int r.1.1], rfl, (by show 2 ≤ 100000; decide), rfl, rfl⟩⟩⟩⟩⟩⟩
  · refine ⟨hrdD hl, ?_, ?_⟩
    · have e : ((rwsT w [rt] (qs.map (oneD g)) 12).map (namT w.ps)).map hrF = (hrdD hl).map fun p => .tup [.tup (p.1.map DL.dK), p.2] := by
        rw [hl1]
        unfold hrdD
        rw [List.map_map, List.map_map, List.map_map]
        rfl
      rw [e]
      exact .lst
    · have hkn : ((hrdD hl).map Prod.fst).Nodup := by
        unfold hrdD
        rw [List.map_map]
        rw [show (Prod.fst ∘ fun x : (Str × Str) × Int => (hKey x.1, D.int x.2)) = hKey ∘ Prod.fst from rfl, ← List.map_map]
        exact List.pairwise_map.mpr (hl2.imp fun hne e => hne (hKey_inj e))
      rw [kputs_nodup (by rw [List.nil_append]; exact hkn), List.nil_append]
      have hdl : (hrdD hl).length = w.ps.length * w.ps.length := by unfold hrdD; rw [List.length_map, hl3]
      have hdg := fun (a b : Str) (ha : a ∈ w.ps) (hb : b ∈ w.ps) => hrdD_get (hl4 a ha b hb)
      generalize hrdD hl = hd at hdl hdg
      let st : Option W → Option W → Option W → Option W → DS := fun a b c e => [some (.own j), some (.val (webD w)), some (.val (rowD rt)), some (.val (scrD (qs.map (oneD g)))), some (.val (tblD w g)), some (.val (.dT hd)), a, b, c, e, none]
      refine s_cons <| s_for G <| i_tup <| x_web0 (w := w) <| x_v G 1 ⟨rfl, psD w.ps, w.ps.map .str, rfl, tuxT, fun i δ μ' => ∃ a b c e, δ = st a b c e ∧ Fed μ μ' j (n + 1000), ⟨none, none, none, none, rfl, hF⟩, fun _ _ _ _ _ => trivial, ?_, ?_⟩
      · rintro i d δ' μ' hd' ⟨a, b, c, e, rfl, hF'⟩
        obtain ⟨p, hp, rfl⟩ := maps_get hd'
        have hpp := List.mem_of_getElem? hp
        refine g_name G 6 ?_
        refine s_one <| s_for G <| i_tup <| x_web0 (w := w) <| x_v G 1 ⟨rfl, psD w.ps, w.ps.map .str, rfl, tuxT, fun i' δ μ' => ∃ b c e, δ = st (some (.val (.str p))) b c e ∧ Fed μ μ' j (n + 1000), ⟨b, c, e, rfl, hF'⟩, fun _ _ _ _ _ => trivial, ?_, ?_⟩
        · rintro i' d δ' μ'' hd'' ⟨b', c', e', rfl, hF''⟩
          obtain ⟨q, hq', rfl⟩ := maps_get hd''
          have hqq := List.mem_of_getElem? hq'
          have look : ∀ (a b : Str) (ha : a ∈ w.ps) (hb : b ∈ w.ps), LookW μ'' (.val (.dT hd)) (.val (.tup [.str (g a), .str b])) (some (.int (Fm rt π a b).1)) := fun a b ha hb => by
            rw [← hdg a b ha hb]
            exact LookW.t (ks := hKey (g a, b))
          have lkT : ∀ a ∈ w.ps, LookW μ'' (.val (tblD w g)) (.val (.str a)) (some (.str (g a))) := fun a ha => by
            rw [← kget_tbl ha]; exact LookW.k (k := .inr a) .dat
          refine g_name G 7 ?_
          refine s_cons <| s_par G 8 9 <| x_get2 hr <| x_v G 5 ⟨.t, x_tup <| a_cons <| x_dget hr <| x_v G 4 <| x_v G 6 ⟨.str (g p), lkT p hpp, a_cons <| x_v G 7 <| a_nil ⟨[.str (g p), .str q], rfl, (by show 2 ≤ 100000; decide), x_int ⟨_, .int 0, rfl, look p q hpp hqq, x_get2 hr <| x_v G 5 ⟨.t, x_tup <| a_cons <| x_dget hr <| x_v G 4 <| x_v G 7 ⟨.str (g q), lkT q hqq, a_cons <| x_v G 6 <| a_nil ⟨[.str (g q), .str p], rfl, (by show 2 ≤ 100000; decide), x_int ⟨_, .int 0, rfl, look q p hqq hpp, ?_⟩⟩⟩⟩⟩⟩⟩⟩
          have fin : ∃ b c e, st (some (.val (.str p))) (some (.val (.str q))) (some (.val (.int (Fm rt π p q).1))) (some (.val (.int (Fm rt π q p).1))) = st (some (.val (.str p))) b c e ∧ Fed μ μ'' j (n + 1000) := ⟨_, _, _, rfl, hF''⟩
          refine s_one <| s_if <| t_and <| t_ne <| x_v G 6 <| x_v G 7 ⟨_, .str _ _, fun k1 => w_and1 <| t_ne <| x_add <| x_v G 8 <| x_v G 9 <| ii <| x_add <| x_call G C5 hr (by decide) <| a_cons <| x_v G 1 <| a_cons <| x_v G 6 <| a_cons <| x_v G 7 <| a_nil ⟨w, π, p, q, rfl, ok, t, hpp, hqq, x_int <| ii ⟨_, .int _ _, fun k2 => ?_, fun _ => s_nil fin⟩⟩, fun k1 => ⟨fun z => (nomatch z), fun _ => s_nil fin⟩⟩
          have hne : p ≠ q := fun z => by rw [z] at k1; simp at k1
          have := there_back ok t hR hpp hqq hne
          rw [decide_eq_true this] at k2
          cases k2
        · rintro δ' μ'' ⟨b', c', e', rfl, hF''⟩
          exact ⟨_, _, _, _, rfl, hF''⟩
      · rintro δ' μ' ⟨a, b, c, e, rfl, hF'⟩
        refine s_one <| s_ret <| x_eq <| x_lenT G T.len <| x_v G 5 ⟨hd, rfl, x_mul <| x_len G T.len <| x_web0 (w := w) <| x_v G 1 ⟨rfl, w.ps.map .str, .tup tuxT, x_len G T.len <| x_web0 (w := w) <| x_v G 1 ⟨rfl, w.ps.map .str, .tup tuxT, ii ⟨.inl ⟨?_, ?_⟩, _, .int _ _, ret_own hF' ?_⟩⟩⟩⟩
        · rw [List.length_map]; omega
        · rw [List.length_map]; omega
        · rw [List.length_map, hdl, decide_eq_true (by push_cast; rfl)]
          exact h μ' hF'
end DL
set_option Elab.async false
set_option linter.all false
set_option maxRecDepth 100000
set_option maxHeartbeats 400000
set_option pp.maxSteps 250
/-! M7: what stands and what is known; what is due. -/
namespace DL
open PySem PySem.Spec PyProof.Rows L2
open PySem.W (dataLe dataLt alike alikeAll AllAlike Sortable)
theorem mle_iff {a b : Int × Int} : mle a b = true ↔ a.1 < b.1 ∨ (a.1 = b.1 ∧ a.2 ≤ b.2) := by
  unfold mle
  rw [Bool.not_eq_true', decide_eq_false_iff_not]
  omega
theorem mle_trans {a b c : Int × Int} (h : mle a b = true) (h' : mle b c = true) : mle a c = true := by
  rw [mle_iff] at h h' ⊢
  omega
/-! ### no arrival before the start -/
def Aft (d i : Int) (f : Fnd) : Prop := ∀ x ∈ f, mle (d, i) x.2 = true
theorem stepA_aft {w : Wb} {d i day first : Int} (hd : d < day ∨ (d = day ∧ i ≤ first)) {n : Nat} {r : Str} {f : Fnd} (h : Aft d i f) : Aft d i (stepA w day first n r f) := by
  rcases stepA_app w day first n r f with e | ⟨x, _, hn, e⟩
  · rw [e]; exact h
  · rw [e]
    intro y hy
    rcases List.mem_append.mp hy with z | z
    · exact h y z
    · rw [List.mem_singleton.mp z, mle_iff]
      show d < day ∨ (d = day ∧ i ≤ (n : Int) + 1)
      omega
theorem stA_aft (w : Wb) (k : List (List Str)) (p : Str) (d i : Int) : ∀ t, Aft d i (stA w k p d i t).2.2 ∧ (d < (stA w k p d i t).1 ∨ (d = (stA w k p d i t).1 ∧ i ≤ (stA w k p d i t).2.1))
  | 0 => ⟨fun x hx => by
      have e : x = (p, (d, i)) := by simpa [stA] using hx
      rw [e, mle_iff]
      exact .inr ⟨rfl, Int.le_refl _⟩, .inr ⟨rfl, Int.le_refl _⟩⟩
  | t + 1 => by
    obtain ⟨h1, h2⟩ := stA_aft w k p d i t
    refine ⟨goA_ind w _ _ (Aft d i) (fun n r f hf => stepA_aft h2 hf) _ _ _ h1, .inl ?_⟩
    show d < (stA w k p d i t).1 + 1
    omega
theorem arr_ge {w : Wb} {k : List (List Str)} {p q : Str} {d i : Int} {m : Int × Int} (h : kget (arrF w k p d i) q = some m) : mle (d, i) m = true := by
  have hm := kget_some_mem h
  unfold arrF at hm
  split at hm
  · exact (stA_aft w k p d i _).1 _ hm
  · cases hm
/-- what comes by the end, whatever the start -/
theorem comL_all {w : Wb} {k : List (List Str)} {p : Str} {d i e j : Int} : comL w k p d i e j = (arrL w k p d i).map fun o => o.filter fun m => mle m (e, j) := by
  unfold comL
  split
  · rfl
  · rename_i hn
    unfold arrL
    rw [List.map_map]
    refine (List.eq_replicate_iff.mpr ⟨by simp, fun b hb => ?_⟩).symm
    obtain ⟨q, _, rfl⟩ := List.mem_map.mp hb
    show Option.filter _ (kget _ _) = _
    cases h : kget (arrF w k p d i) q with
    | none => rfl
    | some m =>
      rw [Option.filter_some, if_neg]
      exact fun z => hn (mle_trans (arr_ge h) z)
/-! ### sorted texts -/
theorem str_ext {x y : Str} (h : x.cps.toList = y.cps.toList) : x = y := by
  cases x with | mk x => cases y with | mk y =>
    have : x = y := Array.toList_inj.mp h
    rw [this]
theorem sortS_of {l l' : List Str} (h : l.Perm l') : sortS l = sortS l' := by
  have hle : (dataLe false fun r => py (.str r)) = fun a b : Str => decide (a.cps.toList ≤ b.cps.toList) := PySem.W.dataLe_str fun r : Str => r
  have key : ∀ l : List Str, (sortS l).Pairwise fun a b : Str => a.cps.toList ≤ b.cps.toList := fun l => by
    unfold sortS
    rw [hle]
    refine (List.pairwise_mergeSort (fun a b c h1 h2 => ?_) (fun a b => ?_) l).imp fun h => of_decide_eq_true h
    · exact decide_eq_true (List.le_trans (of_decide_eq_true h1) (of_decide_eq_true h2))
    · rw [Bool.or_eq_true, decide_eq_true_eq, decide_eq_true_eq]
      exact List.le_total _ _
  exact List.Perm.eq_of_pairwise (fun a b _ _ h1 h2 => str_ext (List.le_antisymm h1 h2)) (key l) (key l') ((sortS_perm l).trans (h.trans (sortS_perm l').symm))
/-! ### who has it -/
theorem rowsFrom_mem {wd : Str} {m : Int × Int} {a : Nat} {wd' : Str} : ∀ {l : List (Option (Int × Int))} {n : Nat}, (m, a, wd') ∈ rowsFrom wd n l ↔ wd' = wd ∧ n ≤ a ∧ l[a - n]? = some (some m)
  | [], n => by simp [rowsFrom]
  | o :: l, n => by
    have ih := rowsFrom_mem (wd := wd) (m := m) (a := a) (wd' := wd') (l := l) (n := n + 1)
    have hc : ∀ x : Option (Option (Int × Int)), n + 1 ≤ a → (o :: l)[a - n]? = l[a - (n + 1)]? := fun _ h => by
      rw [show a - n = (a - (n + 1)) + 1 by omega, List.getElem?_cons_succ]
    cases o with
    | none =>
      show (m, a, wd') ∈ rowsFrom wd (n + 1) l ↔ _
      rw [ih]
      refine ⟨fun ⟨h1, h2, h3⟩ => ⟨h1, by omega, by rw [hc none h2]; exact h3⟩, fun ⟨h1, h2, h3⟩ => ?_⟩
      by_cases e : a = n
      · rw [e, Nat.sub_self] at h3; simp at h3
      · exact ⟨h1, by omega, by rw [← hc none (by omega)]; exact h3⟩
    | some m' =>
      show (m, a, wd') ∈ (m', n, wd) :: rowsFrom wd (n + 1) l ↔ _
      rw [List.mem_cons, ih]
      refine ⟨fun h => ?_, fun ⟨h1, h2, h3⟩ => ?_⟩
      · rcases h with h | ⟨h1, h2, h3⟩
        · injection h with e1 e2
          injection e2 with e2 e3
          rw [e1, e2, e3, Nat.sub_self]
          exact ⟨rfl, Nat.le_refl _, rfl⟩
        · exact ⟨h1, by omega, by rw [hc none h2]; exact h3⟩
      · by_cases e : a = n
        · rw [e, Nat.sub_self] at h3
          have h3 : m' = m := by simpa using h3
          exact .inl (by rw [h1, e, h3])
        · exact .inr ⟨h1, by omega, by rw [← hc none (by omega)]; exact h3⟩
section
variable {w : Wb} {k : List (List Str)} {g : Str → Str} {qs : List Str} {c : Int}
theorem stdT_mem (ok : WOk w) (hq : qs.Perm w.ps) (hg : (w.ps.map g).Nodup) {p q : Str} (hp : p ∈ w.ps) (hqm : q ∈ w.ps) : p ∈ stdT w k (qs.map (oneD g)) c (g q) ↔ ((kget (arrF w k q 1 0) p).any fun m => mle m (c, ((rndOf k c).length : Int))) = true := by
  unfold stdT rwsT placesT
  rw [(sortS_perm _).mem_iff, List.mem_filterMap]
  constructor
  · rintro ⟨⟨m, a, wd⟩, hr, hp2⟩
    have hr := (List.mergeSort_perm _ _).mem_iff.mp hr
    unfold hapT at hr
    obtain ⟨x, hx, hr⟩ := List.mem_flatMap.mp hr
    obtain ⟨q', hq', rfl⟩ := List.mem_map.mp hx
    obtain ⟨h1, _, h3⟩ := rowsFrom_mem.mp hr
    have hp4 : (if ("heard" : Str) = "heard" ∧ wd = g q then w.ps[a]? else none) = some p := hp2
    have hwd : wd = g q := Classical.byContradiction fun z => by rw [if_neg (fun y => z y.2)] at hp4; cases hp4
    rw [if_pos ⟨rfl, hwd⟩] at hp4
    have hqq : q' = q := by
      have e : g q' = g q := by rw [← hwd, h1]; rfl
      exact Classical.byContradiction fun z => by
        obtain ⟨i, hi⟩ := List.mem_iff_getElem?.mp (hq.mem_iff.mp hq')
        obtain ⟨i', hi'⟩ := List.mem_iff_getElem?.mp hqm
        have hlt := (List.getElem?_eq_some_iff.mp hi).1
        have := (List.getElem?_inj (by rw [List.length_map]; exact hlt) hg).mp (show (w.ps.map g)[i]? = (w.ps.map g)[i']? by rw [List.getElem?_map, List.getElem?_map, hi, hi']; exact congrArg some e)
        rw [this, hi'] at hi
        exact z (Option.some.inj hi).symm
    subst hqq
    rw [comL_all] at h3
    unfold arrL at h3
    rw [Nat.sub_zero, List.map_map, List.getElem?_map, hp4] at h3
    have h3 : Option.filter (fun m => mle m (c, ((rndOf k c).length : Int))) (kget (arrF w k q' 1 0) p) = some m := Option.some.inj h3
    cases ho : kget (arrF w k q' 1 0) p with
    | none => rw [ho] at h3; cases h3
    | some m' =>
      rw [ho, Option.filter_some] at h3
      split at h3
      · rename_i hm; exact hm
      · cases h3
  · intro h
    cases ho : kget (arrF w k q 1 0) p with
    | none => rw [ho] at h; cases h
    | some m =>
      rw [ho] at h
      have hm : mle m (c, ((rndOf k c).length : Int)) = true := h
      obtain ⟨a, ha⟩ := List.mem_iff_getElem?.mp hp
      refine ⟨(m, a, g q), (List.mergeSort_perm _ _).mem_iff.mpr ?_, ?_⟩
      · unfold hapT
        refine List.mem_flatMap.mpr ⟨oneD g q, List.mem_map.mpr ⟨q, hq.mem_iff.mpr hqm, rfl⟩, rowsFrom_mem.mpr ⟨rfl, Nat.zero_le _, ?_⟩⟩
        rw [comL_all]
        unfold arrL
        rw [Nat.sub_zero, List.map_map, List.getElem?_map, ha]
        show some (Option.filter _ (kget (arrF w k q 1 0) p)) = _
        rw [ho, Option.filter_some, if_pos hm]
      · show (if ("heard" : Str) = "heard" ∧ g q = g q then w.ps[a]? else none) = some p
        rw [if_pos ⟨rfl, rfl⟩, ha]
/-- the texts of the places known, by what stands -/
theorem known_stands (ok : WOk w) (hq : qs.Perm w.ps) (hg : (w.ps.map g).Nodup) {p : Str} (hp : p ∈ w.ps) (F : Str → Option Str) (hF : ∀ q ∈ w.ps, F (g q) = if p ∈ stdT w k (qs.map (oneD g)) c (g q) then some q else none) :
    sortS ((sortS ((qs.map (oneD g)).map (·.wd))).filterMap F) = sortS (knwT w k c ((rndOf k c).length : Int) p) := by
  refine sortS_of ?_
  have e1 : (qs.map (oneD g)).map (·.wd) = qs.map g := by rw [List.map_map]; rfl
  rw [e1]
  have h1 : ((sortS (qs.map g)).filterMap F).Perm ((w.ps.map g).filterMap F) := ((sortS_perm _).trans (hq.map g)).filterMap F
  refine h1.trans (List.Perm.of_eq ?_)
  unfold knwT
  rw [List.filterMap_map]
  have h2 : ∀ l : List Str, (∀ q ∈ l, q ∈ w.ps) → l.filterMap (F ∘ g) = l.filter fun q => (kget (arrF w k q 1 0) p).any fun m => mle m (c, ((rndOf k c).length : Int)) := by
    intro l
    induction l with
    | nil => intro _; rfl
    | cons q l ih =>
      intro hl
      have hqm := hl q List.mem_cons_self
      have hm := stdT_mem (k := k) (c := c) ok hq hg hp hqm
      have hf := hF q hqm
      rw [List.filter_cons]
      by_cases hc : p ∈ stdT w k (qs.map (oneD g)) c (g q)
      · rw [if_pos hc] at hf
        rw [List.filterMap_cons_some (f := F ∘ g) (b := q) hf, if_pos (hm.mp hc), ih fun x hx => hl x (List.mem_cons_of_mem _ hx)]
      · rw [if_neg hc] at hf
        rw [List.filterMap_cons_none (f := F ∘ g) hf, if_neg (fun z => hc (hm.mpr z)), ih fun x hx => hl x (List.mem_cons_of_mem _ hx)]
  exact h2 w.ps fun _ h => h
end
end DL
set_option Elab.async false
set_option linter.all false
set_option maxRecDepth 100000
set_option maxHeartbeats 400000
set_option pp.maxSteps 250
/-! M8: named rows and texts compared; the due rows. -/
namespace DL
open PySem PySem.Spec PyProof.Rows L2
theorem eqv_shp {d : PyData} (h : SeqAt.shaped d = true) : PyData.eqv d d = true := SeqAt.eqv_refl d (SeqAt.canLay_of_shaped h)
theorem shp_tup {xs : List Str} (h : ∀ x ∈ xs, NameOk x) : SeqAt.shaped (py (.tup (xs.map .str))) = true := by
  have h1 := shp_strs h
  unfold SeqAt.shaped at h1 ⊢
  rw [Bool.and_eq_true, decide_eq_true_eq] at h1 ⊢
  refine ⟨h1.1, ?_⟩
  have := h1.2
  show (PyData.tuple (pys (xs.map .str))).depth ≤ 64
  simp only [PyData.depth] at this ⊢
  exact this
def RNm (ps : List Str) (l : List Row) : Prop := ∀ r ∈ l, NameOk (ps.getD r.2.1 Str.empty) ∧ NameOk r.2.2
theorem pls_nam {ps : List Str} : ∀ l : List Row, pls (l.map (namT ps)) = true
  | [] => rfl
  | r :: l => by show (pl (namT ps r) && pls (l.map (namT ps))) = true; rw [pls_nam l]; rfl
theorem shp_nam {ps : List Str} {l : List Row} (h : RNm ps l) : SeqAt.shaped (.list (pys (l.map (namT ps)))) = true := by
  have h1 : PyData.canLayAll0 (pys (l.map (namT ps))) = true ∧ PyData.depthAll (pys (l.map (namT ps))) ≤ 2 := by
    induction l with
    | nil => exact ⟨rfl, by simp [pys, PyData.depthAll]⟩
    | cons r l ih =>
      obtain ⟨a, b⟩ := ih fun y hy => h y (List.mem_cons_of_mem _ hy)
      obtain ⟨n1, n2⟩ := h r List.mem_cons_self
      refine ⟨?_, ?_⟩
      · show (PyData.canLay0 (.tuple [.tuple [.int r.1.1, .int r.1.2], .str "heard", .str (ps.getD r.2.1 Str.empty), .str r.2.2]) && PyData.canLayAll0 (pys (l.map (namT ps)))) = true
        rw [a]
        have e1 := nameOk_str n1
        have e2 := nameOk_str n2
        have e3 : PyData.canLay0 (.str "heard") = true := by decide +kernel
        show ((true && (PyData.canLay0 (.str "heard") && (PyData.canLay0 (.str (ps.getD r.2.1 Str.empty)) && (PyData.canLay0 (.str r.2.2) && true)))) && true) = true
        rw [e1, e2, e3]
        rfl
      · show PyData.depthAll (.tuple [.tuple [.int r.1.1, .int r.1.2], .str "heard", .str (ps.getD r.2.1 Str.empty), .str r.2.2] :: pys (l.map (namT ps))) ≤ 2
        rw [PyData.depthAll]
        simp [PyData.depth, PyData.depthAll]
        omega
  unfold SeqAt.shaped
  rw [Bool.and_eq_true]
  refine ⟨h1.1, ?_⟩
  rw [decide_eq_true_eq]
  simp only [PyData.depth]
  omega
theorem rowsFrom_wd {wd : Str} : ∀ {l : List (Option (Int × Int))} {n : Nat}, ∀ r ∈ rowsFrom wd n l, r.2.2 = wd
  | [], _, _, h => by cases h
  | none :: l, n, r, h => rowsFrom_wd (l := l) r h
  | some m :: l, n, r, h => by
    rcases List.mem_cons.mp h with e | e
    · rw [e]
    · exact rowsFrom_wd (l := l) r e
theorem rwsT_nm {w : Wb} {k : List (List Str)} {s : List Dd} {c : Int} (ok : WOk w) (hs : SOk w k s) : RNm w.ps (rwsT w k s c) := fun r hr => by
  have hlt := hapT_in r hr
  refine ⟨ok.pok _ (by rw [List.getD_eq_getElem?_getD, List.getElem?_eq_getElem hlt]; exact List.getElem_mem hlt), ?_⟩
  have hr' := (List.mergeSort_perm _ _).mem_iff.mp hr
  unfold hapT at hr'
  obtain ⟨x, hx, hr'⟩ := List.mem_flatMap.mp hr'
  rw [rowsFrom_wd r hr']
  exact (hs.each x hx).wd
theorem rowsFrom_snoc (wd : Str) (o : Option (Int × Int)) : ∀ (l : List (Option (Int × Int))) (n : Nat), rowsFrom wd n (l ++ [o]) = rowsFrom wd n l ++ (match o with | none => [] | some m => [(m, n + l.length, wd)])
  | [], n => by cases o <;> rfl
  | none :: l, n => by
    show rowsFrom wd (n + 1) (l ++ [o]) = rowsFrom wd (n + 1) l ++ _
    rw [rowsFrom_snoc wd o l (n + 1), List.length_cons, show n + 1 + l.length = n + (l.length + 1) by omega]
  | some m :: l, n => by
    show (m, n, wd) :: rowsFrom wd (n + 1) (l ++ [o]) = ((m, n, wd) :: rowsFrom wd (n + 1) l) ++ _
    rw [rowsFrom_snoc wd o l (n + 1), List.length_cons, show n + 1 + l.length = n + (l.length + 1) by omega]
    rfl
end DL
set_option Elab.async false
set_option linter.all false
set_option maxRecDepth 100000
set_option maxHeartbeats 400000
set_option pp.maxSteps 250
/-! F21: _law_any_right -/
namespace DL
open PySem PySem.Spec PyProof.Rows L2
/-- the place of a word -/
def invG (ps : List Str) (g : Str → Str) (wd : Str) : Str := (ps.find? fun q => decide (g q = wd)).getD Str.empty
/-- a row with its place's name -/
def fNam (ps : List Str) : D → D := fun d => match d with | .tup [a, b, .int n, c] => .tup [a, b, .str (ps.getD n.toNat Str.empty), c] | _ => .non
theorem invG_eq {ps : List Str} {g : Str → Str} (hg : (ps.map g).Nodup) {q : Str} (hq : q ∈ ps) : invG ps g (g q) = q := by
  unfold invG
  cases h : ps.find? fun x => decide (g x = g q) with
  | none => exact absurd (List.find?_eq_none.mp h q hq) (by simp)
  | some x =>
    have h1 := List.find?_some h
    have h2 := List.mem_of_find?_eq_some h
    show x = q
    obtain ⟨i, hi⟩ := List.mem_iff_getElem?.mp h2
    obtain ⟨i', hi'⟩ := List.mem_iff_getElem?.mp hq
    have hlt := (List.getElem?_eq_some_iff.mp hi).1
    have := (List.getElem?_inj (by rw [List.length_map]; exact hlt) hg).mp (show (ps.map g)[i]? = (ps.map g)[i']? by rw [List.getElem?_map, List.getElem?_map, hi, hi']; exact congrArg some (of_decide_eq_true h1))
    rw [this, hi'] at hi
    exact (Option.some.inj hi).symm
def wrdD (w : Wb) (g : Str → Str) : List (Key × D) := w.ps.map fun p => ((Sum.inr (g p) : Key), D.str p)
theorem wrdD_nd {w : Wb} {g : Str → Str} (hg : (w.ps.map g).Nodup) : ((wrdD w g).map Prod.fst).Nodup := by
  unfold wrdD
  rw [List.map_map]
  have h : (w.ps.map ((Sum.inr : Str → Key) ∘ g)).Nodup := by
    rw [← List.map_map]
    exact List.pairwise_map.mpr (hg.imp fun hne e => hne (Sum.inr.inj e))
  exact h
theorem wrdD_get {w : Wb} {g : Str → Str} (hg : (w.ps.map g).Nodup) {q : Str} (hq : q ∈ w.ps) : kget (wrdD w g) (.inr (g q)) = some (.str q) :=
  kget_of_mem (wrdD_nd hg) (List.mem_map.mpr ⟨q, hq, rfl⟩)
def fSwap : D → D := fun d => match d with | .tup [a, b] => .tup [b, a] | _ => .non
open Classical in
noncomputable def fHas (w : Wb) (k : List (List Str)) (s : List Dd) (c : Int) (g : Str → Str) (p : Str) (wd : Str) : Option Str := if p ∈ stdT w k s c wd then some (invG w.ps g wd) else none
open Classical in
noncomputable def fHasD (w : Wb) (k : List (List Str)) (s : List Dd) (c : Int) (g : Str → Str) (p : Str) : D → Option D
  | .tup [.str wd, _, _] => if p ∈ stdT w k s c wd then some (.str (invG w.ps g wd)) else none
  | _ => none
theorem fHasD_map (w : Wb) (k : List (List Str)) (s : List Dd) (c : Int) (g : Str → Str) (p : Str) : ∀ l : List Str, (l.map (stdD w k s c)).filterMap (fHasD w k s c g p) = (l.filterMap (fHas w k s c g p)).map D.str
  | [] => rfl
  | x :: l => by
    have ih := fHasD_map w k s c g p l
    rw [List.map_cons]
    by_cases h : p ∈ stdT w k s c x
    · rw [List.filterMap_cons_some (f := fHasD w k s c g p) (b := D.str (invG w.ps g x)) (show fHasD w k s c g p (stdD w k s c x) = _ from if_pos h), ih, List.filterMap_cons_some (f := fHas w k s c g p) (b := invG w.ps g x) (if_pos h)]
      rfl
    · rw [List.filterMap_cons_none (f := fHasD w k s c g p) (show fHasD w k s c g p (stdD w k s c x) = _ from if_neg h), ih, List.filterMap_cons_none (f := fHas w k s c g p) (if_neg h)]
/-- the script of tells at (1, 0) -/
theorem sok_told {w : Wb} {k : List (List Str)} {g : Str → Str} {qs : List Str} (ok : WOk w) (hq : qs.Perm w.ps) (hg : (w.ps.map g).Nodup) (hgo : ∀ p ∈ w.ps, NameOk (g p)) : SOk w k (qs.map (oneD g)) := by
  have hpm := ok.pm
  have hqm : ∀ q ∈ qs, q ∈ w.ps := fun q hq' => hq.mem_iff.mp hq'
  have hsl : (qs.map (oneD g)).length ≤ 20 := by rw [List.length_map, hq.length_eq]; omega
  refine ⟨hsl, fun x hx => ?_, ?_, fun a x y hx hy => ?_⟩
  · obtain ⟨q, hq', rfl⟩ := List.mem_map.mp hx
    exact ⟨⟨Int.le_refl _, (by show (1 : Int) ≤ 1000000; decide), Int.le_refl _, Int.natCast_nonneg _⟩, hqm q hq', hgo q (hqm q hq')⟩
  · rw [List.map_map]
    exact (hq.map g).nodup_iff.mpr hg
  · rw [List.getElem?_map] at hx hy
    cases hx' : qs[a]? with
    | none => rw [hx'] at hx; cases hx
    | some p =>
      cases hy' : qs[a + 1]? with
      | none => rw [hy'] at hy; cases hy
      | some q => rw [hx'] at hx; rw [hy'] at hy; cases hx; cases hy; rfl
abbrev s_law_any_right : Stmt := top 88
abbrev N_law_any_right : List Str := ["_law_feed_here", "_law_web_here", "_law_week_here", "_law_count_here", "_law_script_here", "_law_table", "_law_told", "_law_end_here", "_law_words_here", "_law_place", "_law_known", "_law_due", "_law_word", "_law_moment_here", "_law_text", "_law_at", "_law_come", "_law_named", "_law_believers", "_law_denied", "_law_row"]
theorem sc_law_any_right : FnScope N_law_any_right ["_law_feed_here"] (defScope s_law_any_right) := ⟨rfl, rfl, rfl, by decide +kernel, rfl, by decide +kernel, by decide +kernel⟩
theorem ok_law_any_right {m : Mo} (T : Tops m) (F : Stands m "_law_any_right" s_law_any_right) (C1 : Callee m "_law_sized_web" 5 S_law_sized_web) (C2 : Callee m "_law_week" 4 S_law_week) (C3 : Callee m "_law_count" 3 S_law_count) (C4 : Callee m "_law_told_all" 4 S_law_told_all) (C5 : Callee m "standing" 7 S_standing) (C6 : Callee m "_law_end" 2 S_law_end) (C7 : Callee m "known_at" 5 S_known_at) (C8 : Callee m "_law_script" 4 S_law_script) (C9 : Callee m "arrivals" 6 S_arrivals) (C10 : Callee m "run_script" 7 S_run_script) : Callee m "_law_any_right" 8 S_law_right := by
  refine callee_of F sc_law_any_right (ps := ["_law_feed_here"]) (fun ws μ R h => by obtain ⟨_, _, rfl, _⟩ := h; rfl) (fun _ _ _ _ _ _ us hl => match us, hl with | [_], _ => rfl) fun X hm G fx hr ws μ R h => ?_
  subst hm
  obtain ⟨j, n, rfl, hf, hn, h⟩ := h
  have hjl := hf.lt
  refine s_cons <| s_set G 1 <| x_call G C1 hr (by decide) <| a_cons <| x_v G 0 <| a_cons <| x_str <| a_nil ⟨j, n, "any", rfl, hf, by omega, .inr rfl, fun w μ1 ok _ hF1 => ?_⟩
  have hpm := ok.pm
  refine s_cons <| s_par G 2 3 <| x_call G C2 hr (by decide) <| a_cons <| x_v G 0 <| a_cons <| x_v G 1 <| a_nil ⟨j, n + 201, w, rfl, hF1.at_, by omega, ok, fun k μ2 kk hF2 => x_call G C3 hr (by decide) <| a_cons <| x_v G 0 <| a_nil ⟨j, n + 201 + 200, rfl, hF2.at_, by omega, fun c μ3 c1 c2 hF3 => ?_⟩⟩
  have hF3' := (hF1.trans hF2).trans hF3
  refine s_cons <| s_asg <| x_call G C4 hr (by decide) <| a_cons <| x_v G 0 <| a_cons <| x_v G 1 <| a_cons <| x_tup <| a_cons <| x_int <| a_cons <| x_int <| a_nil ⟨[.int 1, .int 0], rfl, (by show 2 ≤ 100000; decide), a_nil ⟨j, n + 201 + 200 + 3, w, rfl, hF3'.at_, by omega, ok, fun g qs μ4 hq hg hgo hF4 => g_tup2 G 4 5 tupT ?_⟩⟩
  have hF5 := (hF3'.trans hF4).mono (m := n + 500) (by omega)
  have hS : SOk w k (qs.map (oneD g)) := sok_told ok hq hg hgo
  refine s_cons <| s_par G 6 7 <| x_call G C5 hr (by decide) <| a_cons <| x_v G 1 <| a_cons <| x_v G 2 <| a_cons <| x_v G 4 <| a_cons <| x_v G 3 <| a_nil ⟨w, k, qs.map (oneD g), c, rfl, ok, kk, hS, c1, c2, x_call G C6 hr (by decide) <| a_cons <| x_v G 2 <| a_cons <| x_v G 3 <| a_nil ⟨k, c, rfl, kk.lo, ?_⟩⟩
  have hgi : ∀ q ∈ w.ps, invG w.ps g (g q) = q := fun q hq' => invG_eq hg hq'
  refine s_cons <| s_set G 8 <| x_dictK G T.dict <| x_lc (o := false) G [("_law_place", 9), ("_law_word", 12)] <| lc_map fSwap <| i_lst <| x_items G T.list <| x_v G 5 ⟨_, rfl, _, .lst, ?_, trivial, fun i d hi b => ?_, wrdD w g, ?_, ?_⟩
  · show (itemsD (w.ps.map fun p => ((Sum.inr p : Key), D.str (g p)))).length ≤ 40000
    unfold itemsD
    rw [List.length_map, List.length_map]
    omega
  · unfold itemsD at hi
    rw [List.map_map] at hi
    obtain ⟨p, hp, rfl⟩ := maps_get hi
    exact c_tup2 (d1 := .str p) (d2 := .str (g p)) (G.bk rfl) 9 12 tupT fun b => x_tup <| a_cons <| x_v (G.bk rfl) 12 <| a_cons <| x_v (G.bk rfl) 9 <| a_nil ⟨[.str (g p), .str p], rfl, (by show 2 ≤ 100000; decide), rfl, rfl⟩
  · have e : (itemsD (w.ps.map fun p => ((Sum.inr p : Key), D.str (g p)))).map fSwap = (wrdD w g).map fun p => .tup [DL.dK p.1, p.2] := by
      unfold itemsD wrdD
      rw [List.map_map, List.map_map, List.map_map]
      rfl
    rw [e]
    exact .lst
  rw [kputs_nodup (by rw [List.nil_append]; exact wrdD_nd hg), List.nil_append]
  have hsl := hS.l
  have hstl : (sortS ((qs.map (oneD g)).map (·.wd))).length ≤ 20 := by rw [sortS_len, List.length_map]; exact hsl
  let st : Option W → Option W → DS := fun a b => [some (.own j), some (.val (webD w)), some (.val (weekD k)), some (.val (.int c)), some (.val (scrD (qs.map (oneD g)))), some (.val (tblD w g)), some (.val (.lst ((sortS ((qs.map (oneD g)).map (·.wd))).map (stdD w k (qs.map (oneD g)) c)))), some (.val (mom c ((rndOf k c).length : Int))), some (.val (.dK (wrdD w g))), a, b, none, none, none, none, none, none, none, none, none, none]
  refine s_cons <| s_for G <| i_zipM G T.zip <| x_web0 (w := w) <| x_v G 1 ⟨rfl, x_call G C7 hr (by decide) <| a_cons <| x_v G 1 <| a_cons <| x_v G 2 <| a_cons <| x_v G 7 <| a_nil ⟨w, k, c, ((rndOf k c).length : Int), rfl, ok, kk, ⟨c1, by omega, by omega, Int.le_refl _⟩, psD w.ps, w.ps.map .str, _, rfl, tuxT, rfl, fun i δ μ' => ∃ a b, δ = st a b ∧ Fed μ μ' j (n + 500), ⟨none, none, rfl, hF5⟩, fun _ _ _ _ _ => trivial, ?_, ?_⟩⟩
  · rintro i d δ' μ' hd ⟨a, b, rfl, hF⟩
    obtain ⟨z1, z2, hz1, hz2, rfl⟩ := zipD_get hd
    obtain ⟨p, hp, rfl⟩ := maps_get hz1
    obtain ⟨p', hp', rfl⟩ := maps_get hz2
    rw [hp] at hp'
    cases hp'
    have hpp := List.mem_of_getElem? hp
    refine g_tup2 G 9 10 tupT ?_
    refine s_one <| s_if <| t_neD hr <| x_v G 10 <| x_tuple G T.tuple <| x_sortS G hr T.sorted false <| x_lc (o := false) G [("_law_word", 12), ("_law_believers", 18), ("_law_denied", 19)] <| lc_flt (fHasD w k (qs.map (oneD g)) c g p) <| i_lst <| x_v G 6 ⟨(sortS ((qs.map (oneD g)).map (·.wd))).map (stdD w k (qs.map (oneD g)) c), .lst, by rw [List.length_map]; omega, trivial, fun n y hy b => ?_, ?_⟩
    · obtain ⟨wd, hwd, rfl⟩ := maps_get hy
      have hwd := (sortS_perm _).mem_iff.mp (List.mem_of_getElem? hwd)
      obtain ⟨x, hx, rfl⟩ := List.mem_map.mp hwd
      obtain ⟨q, hqq, rfl⟩ := List.mem_map.mp hx
      have hqm := hq.mem_iff.mp hqq
      refine c_tup3 (G.bk rfl) 12 18 19 tupT fun b => ts_one <| t_inS <| x_v (G.bk rfl) 9 <| x_v (G.bk rfl) 18 ⟨p, stdT w k (qs.map (oneD g)) c (g q), rfl, .tup tupT, fun k1 b => ?_, fun k1 => ⟨if_neg (of_decide_eq_false k1), rfl⟩⟩
      exact x_dget hr <| x_v (G.bk rfl) 8 <| x_v (G.bk rfl) 12 ⟨.str q, by rw [← wrdD_get hg hqm]; exact LookW.k (k := .inr (g q)) .dat, _, rfl, (if_pos (of_decide_eq_true k1)).trans (congrArg (fun z => some (D.str z)) (hgi q hqm)), rfl⟩
    · rw [fHasD_map]
      show ∃ xs, LstW _ (W.val (.lst _)) _ ∧ _
      have hkl : (knwT w k c ((rndOf k c).length : Int) p).length ≤ w.ps.length := List.length_filter_le _ _
      have hfl : ((sortS ((qs.map (oneD g)).map (·.wd))).filterMap (fHas w k (qs.map (oneD g)) c g p)).length ≤ 20 := Nat.le_trans (List.length_filterMap_le _ _) hstl
      have hks := known_stands (c := c) (k := k) ok hq hg hpp (fHas w k (qs.map (oneD g)) c g p) fun q hq' => by
        unfold fHas
        rw [hgi q hq']
      have hsp : SeqAt.shaped (py (.tup ((sortS (knwT w k c ((rndOf k c).length : Int) p)).map .str))) = true := shp_tup fun x hx => by
        have hx := (sortS_perm _).mem_iff.mp hx
        unfold knwT at hx
        exact ok.pok x (List.mem_filter.mp hx).1
      refine ⟨_, .lst, by omega, _, .lst, _, _, rfl, rfl, pls_strs _, pls_strs _, ?_, ?_, ?_⟩
      · exact hsp
      · rw [hks]; exact hsp
      · rw [hks, eqv_shp hsp]
        exact ⟨fun z => (nomatch (show true = false from z.symm)), fun _ => s_nil ⟨_, _, rfl, hF⟩⟩
  · rintro δ' μ' ⟨a, b, rfl, hF⟩
    refine s_cons <| s_set G 4 <| x_call G C8 hr (by decide) <| a_cons <| x_v G 0 <| a_cons <| x_v G 1 <| a_cons <| x_v G 2 <| a_cons <| x_int <| a_cons <| x_lst <| a_cons <| x_int <| a_nil ⟨[.int 0], rfl, (by show 1 ≤ 100000; decide), a_nil ⟨j, n + 500, w, k, rfl, hF.at_, by omega, ok, kk, fun s μ6 hs hF6 => ?_⟩⟩
    have hF6' := (hF.trans hF6).mono (m := n + 1000) (by omega)
    refine s_cons <| s_set G 11 <| x_lstO <| a_nil ⟨[], rfl, Nat.zero_le _, ?_⟩
    rw [hF6'.len]
    have hsl6 := hs.l
    have at6 : ∀ (m : M), (μ6 ++ [m])[μ.length]? = some m := fun m => by rw [← hF6'.len]; exact at_last
    have set6 : ∀ (m m' : M), (μ6 ++ [m]).set μ.length m' = μ6 ++ [m'] := fun m m' => by rw [← hF6'.len]; exact set_last
    let st2 : Option W → Option W → Option W → Option W → Option W → Option W → DS := fun a e1 e2 e3 e4 e5 => [some (.own j), some (.val (webD w)), some (.val (weekD k)), some (.val (.int c)), some (.val (scrD s)), some (.val (tblD w g)), some (.val (.lst ((sortS ((qs.map (oneD g)).map (·.wd))).map (stdD w k (qs.map (oneD g)) c)))), some (.val (mom c ((rndOf k c).length : Int))), some (.val (.dK (wrdD w g))), a, b, some (.own μ.length), e1, e2, e3, e4, e5, none, none, none, none]
    refine s_cons <| s_for G <| i_tup <| x_v G 4 ⟨scrD s, s.map deedD, rfl, tupT, fun i δ μ' => ∃ a e1 e2 e3 e4 e5, δ = st2 a e1 e2 e3 e4 e5 ∧ μ' = μ6 ++ [.ml ((hapT w k (s.take i) c ((rndOf k c).length : Int)).map rowT)], ⟨a, none, none, none, none, none, rfl, rfl⟩, fun _ _ _ _ _ => trivial, ?_, ?_⟩
    · rintro i d δ' μ' hd ⟨a, e1, e2, e3, e4, e5, rfl, rfl⟩
      obtain ⟨x, hx, rfl⟩ := maps_get hd
      have hxm := List.mem_of_getElem? hx
      have hh : hapT w k (s.take (i + 1)) c ((rndOf k c).length : Int) = hapT w k (s.take i) c ((rndOf k c).length : Int) ++ rowsFrom x.wd 0 (comL w k x.p x.d x.i c ((rndOf k c).length : Int)) := by
        unfold hapT
        rw [getElem?_take_succ hx, List.flatMap_append]
        simp
      have hle := hapT_len (k := k) (e := c) (j := ((rndOf k c).length : Int)) ok (s.take i)
      rw [List.length_take] at hle
      have hal : ((arrL w k x.p x.d x.i).map optM).length = w.ps.length := by unfold arrL; simp
      refine g_tup4 G 12 13 9 14 tupT ?_
      refine s_one <| s_for G <| i_enum G T.enumerate <| x_call G C9 hr (by decide) <| a_cons <| x_v G 1 <| a_cons <| x_v G 2 <| a_cons <| x_v G 9 <| a_cons <| x_v G 13 <| a_nil ⟨w, k, x.p, x.d, x.i, rfl, ok, kk, (hs.each x hxm).p, (hs.each x hxm).m, (arrL w k x.p x.d x.i).map optM, rfl, fun i' δ μ' => ∃ e4 e5, δ = st2 (some (.val (.str x.p))) (some (.val (.str "tell"))) (some (.val (mom x.d x.i))) (some (.val (.str x.wd))) e4 e5 ∧ μ' = μ6 ++ [.ml ((hapT w k (s.take i) c ((rndOf k c).length : Int) ++ rowsFrom x.wd 0 ((comL w k x.p x.d x.i c ((rndOf k c).length : Int)).take i')).map rowT)], ⟨e4, e5, rfl, by rw [show ((comL w k x.p x.d x.i c ((rndOf k c).length : Int)).take 0) = [] from List.take_zero, show rowsFrom x.wd 0 [] = [] from rfl, List.append_nil]⟩, fun _ _ _ _ _ => trivial, ?_, ?_⟩
      · rintro i' d δ' μ' hd' ⟨e4', e5', rfl, rfl⟩
        obtain ⟨z, hz, rfl⟩ := enumD_get hd'
        obtain ⟨o, ho, rfl⟩ := maps_get hz
        have hi' : i' < w.ps.length := by
          have := (List.getElem?_eq_some_iff.mp hz).1
          omega
        have hcg : (comL w k x.p x.d x.i c ((rndOf k c).length : Int))[i']? = some (o.filter fun m => mle m (c, ((rndOf k c).length : Int))) := by rw [comL_all, List.getElem?_map, ho]; rfl
        have hsn : rowsFrom x.wd 0 ((comL w k x.p x.d x.i c ((rndOf k c).length : Int)).take (i' + 1)) = rowsFrom x.wd 0 ((comL w k x.p x.d x.i c ((rndOf k c).length : Int)).take i') ++ (match o.filter fun m => mle m (c, ((rndOf k c).length : Int)) with | none => [] | some m => [(m, i', x.wd)]) := by
          rw [getElem?_take_succ hcg, rowsFrom_snoc, List.length_take, comL_len, Nat.min_eq_left (by omega), Nat.zero_add] <;> rfl
        have hrl : (rowsFrom x.wd 0 ((comL w k x.p x.d x.i c ((rndOf k c).length : Int)).take i')).length ≤ 10 := by
          have := rowsFrom_len x.wd ((comL w k x.p x.d x.i c ((rndOf k c).length : Int)).take i') 0
          rw [List.length_take] at this
          omega
        refine g_tup2 G 15 16 tupT ?_
        refine s_one <| s_if <| t_and <| t_notN <| x_v G 16 ⟨_, rfl, fun k1 => ?_, fun k1 => ⟨fun z => (nomatch z), fun _ => s_nil ?_⟩⟩
        · cases o with
          | none => cases k1
          | some mm =>
            refine w_and1 <| t_leM hr <| x_v G 16 <| x_v G 7 ⟨mm.1, mm.2, c, ((rndOf k c).length : Int), rfl, rfl, fun k2 => ?_, fun k2 => s_nil ?_⟩
            · refine s_one <| s_expr <| x_append <| x_v G 11 ⟨μ.length, rfl, ⟨_, at6 _⟩, x_tup <| a_cons <| x_v G 16 <| a_cons <| x_str <| a_cons <| x_v G 15 <| a_cons <| x_v G 14 <| a_nil ⟨[mom mm.1 mm.2, .str "heard", .int i', .str x.wd], rfl, (by show 4 ≤ 100000; decide), _, _, at6 _, rfl, ?_, ⟨_, _, rfl, ?_⟩⟩⟩
              · rw [List.length_map, List.length_append]; omega
              · rw [set6, hsn, Option.filter_some, if_pos (show mle mm (c, ((rndOf k c).length : Int)) = true from k2), List.map_append, List.map_append, List.map_append, List.append_assoc]
                rfl
            · refine ⟨_, _, rfl, ?_⟩
              rw [hsn, Option.filter_some, if_neg (show ¬ mle mm (c, ((rndOf k c).length : Int)) = true from fun z => by unfold mle at z; rw [k2] at z; cases z), List.append_nil]
        · cases o with
          | none =>
            refine ⟨_, _, rfl, ?_⟩
            rw [hsn]
            show _ = μ6 ++ [M.ml (List.map rowT (_ ++ (_ ++ [])))]
            rw [List.append_nil]
          | some mm => cases k1
      · rintro δ' μ' ⟨e4', e5', rfl, rfl⟩
        refine ⟨_, _, _, _, _, _, rfl, ?_⟩
        rw [enumD_length, hal, hh, List.take_of_length_le (l := comL w k x.p x.d x.i c ((rndOf k c).length : Int)) (by rw [comL_len]; omega)]
    · rintro δ' μ' ⟨a, e1, e2, e3, e4, e5, rfl, rfl⟩
      rw [List.length_map, List.take_length]
      obtain ⟨r1, r2, r3, r4⟩ := rows_ok (hapT w k s c ((rndOf k c).length : Int))
      have hhl := hapT_len (k := k) (e := c) (j := ((rndOf k c).length : Int)) ok s
      have hrl := rwsT_len (k := k) (c := c) ok hs.l
      refine s_cons <| s_setLc (o := false) G [("_law_row", 20)] 17 <| lc_map (fNam w.ps) <| i_lst <| x_sorted G hr T.sorted false <| x_v G 11 ⟨_, .own (at6 _), r1, r2, r3, by rw [List.length_map]; omega, r4, ?_⟩
      rw [sortT_eq]
      refine ⟨(rwsT w k s c).map rowT, .lst, by rw [List.length_map]; omega, trivial, fun n d hd b => ?_, ?_⟩
      · obtain ⟨r, hrr, rfl⟩ := maps_get hd
        have hlt : r.2.1 < w.ps.length := hapT_in r (List.mem_of_getElem? hrr)
        have hget : w.ps[r.2.1]? = some w.ps[r.2.1] := List.getElem?_eq_getElem hlt
        refine c_name (G.bk rfl) 20 fun b => x_tup <| a_cons <| x_at <| x_v (G.bk rfl) 20 <| x_int ⟨_, 0, mom r.1.1 r.1.2, .tup tupT, rfl, rfl, a_cons <| x_at <| x_v (G.bk rfl) 20 <| x_int ⟨_, 1, .str "heard", .tup tupT, rfl, rfl, a_cons <| x_at <| x_web0 (w := w) <| x_v (G.bk rfl) 1 ⟨rfl, x_at <| x_v (G.bk rfl) 20 <| x_int ⟨_, 2, .int r.2.1, .tup tupT, rfl, rfl, w.ps.map .str, r.2.1, .str w.ps[r.2.1], .tup tuxT, rfl, at_nat (xs := w.ps.map D.str) (j := r.2.1) (d := .str w.ps[r.2.1]) (by rw [List.getElem?_map, hget]; rfl), a_cons <| x_at <| x_v (G.bk rfl) 20 <| x_int ⟨_, 3, .str r.2.2, .tup tupT, rfl, rfl, a_nil ⟨[mom r.1.1 r.1.2, .str "heard", .str w.ps[r.2.1], .str r.2.2], rfl, (by show 4 ≤ 100000; decide), ?_, rfl⟩⟩⟩⟩⟩⟩
        show _ = W.val (.tup [mom r.1.1 r.1.2, .str "heard", .str (w.ps.getD (r.2.1 : Int).toNat Str.empty), .str r.2.2])
        rw [Int.toNat_natCast, List.getD_eq_getElem?_getD, hget]
        rfl
      · have hnm := rwsT_nm (c := c) ok hs
        rw [List.map_map, show fNam w.ps ∘ rowT = namT w.ps from rfl]
        refine s_one <| s_ret <| x_eqL hr <| x_call G C10 hr (by decide) <| a_cons <| x_v G 1 <| a_cons <| x_v G 2 <| a_cons <| x_v G 4 <| a_cons <| x_v G 3 <| a_nil ⟨w, k, s, c, rfl, ok, kk, hs, c1, c2, x_v G 17 ⟨_, _, .lst, .lst, pls_nam _, pls_nam _, shp_nam hnm, shp_nam hnm, ?_⟩⟩
        rw [eqv_shp (shp_nam hnm)]
        show R (.val _) ((μ6 ++ _).take μ.length)
        rw [List.take_left' hF6'.len]
        exact h μ6 hF6'
end DL
set_option Elab.async false
set_option linter.all false
set_option maxRecDepth 100000
set_option maxHeartbeats 400000
set_option pp.maxSteps 250
/-! F22: law -/
namespace DL
open PySem PySem.Spec PyProof.Rows L2
open Evl (Ex)
abbrev s_law : Stmt := top 89
theorem sc_law : FnScope ["_law_script_here", "_law_k", "_law_feed_here"] ["_law_script_here"] (defScope s_law) := ⟨rfl, rfl, rfl, by decide +kernel, rfl, by decide +kernel, by decide +kernel⟩
def S_law : SpecD := fun ws μ R => ∃ xs : List Int, ws = [.val (.sq (xs.map .int))] ∧ xs.length ≤ 63 ∧ R (.val (.bl true)) μ
/-- the promise of a def that stands at f -/
theorem fnok_of {m : Mo} {x : Str} {st : Stmt} {N ps : List Str} {k : Nat} {S : SpecD} {f : Addr} {fd : FuncData} (F : FunD m.K x x (defArgs st) (defBody st) (defScope st) [] [] f fd) (SC : FnScope N ps (defScope st)) (len : ∀ ws μ R, S ws μ R → ws.length = ps.length)
    (body : ∀ X : Cx, moOf X = m → GX X (defScope st) N → FX X → Room k X.A → ∀ ws μ R, S ws μ R → WSs X (defBody st) (startD N ws) μ ⟨fun _ μ' => RetR μ.length R (.val .non) μ', RetR μ.length R, fun _ _ => False, fun _ _ => False⟩) : FnOk m.P m.w m.K m.mg m.base CX0 (k + 1) f fd ps (spD m.K S) := by
  obtain ⟨P, w, K, mg, base⟩ := m
  refine F.ok SC (fun vs H Q E h => ?_) (fun cdv A outer s H vs Q E hr h => ?_)
  · obtain ⟨G, A, ws, μ, R, c, r, hS, _⟩ := h
    rw [r.length]
    exact len ws μ R hS
  · obtain ⟨G, A', ws, μ, R, c, r, hS, l⟩ := h
    refine ⟨wSs (cxOf CX0 P w K mg base N x (defScope st) f cdv A outer s H E).nox (defBody st), PSs.nox pss_w, ?_⟩
    have G0 : GX (cxOf CX0 P w K mg base N x (defScope st) f cdv A outer s H E).nox (defScope st) N :=
      ⟨rfl, rfl, SC.kind, rfl, SC.nd, rfl⟩
    have l2 := lnk_ret c l
    refine body (cxOf CX0 P w K mg base N x (defScope st) f cdv A outer s H E).nox rfl G0 (fun _ => rfl) hr ws μ R hS G H A' (L2.start N vs) c (slots_start r) _ ⟨fun σ' δ' G' H' A'' μ' st' c' s' h' => l2 .non (.val .non) G' H' A'' μ' st' c' Rep.non h', l2, fun _ _ _ _ _ _ _ _ _ h' => h'.elim, fun _ _ _ _ _ _ _ _ _ h' => h'.elim⟩
theorem ok_law {m : Mo} (T : Tops m) {f : Addr} {fd : FuncData} (F : FunD m.K "law" "law" (defArgs s_law) (defBody s_law) (defScope s_law) [] [] f fd) (C1 : Callee m "_law_feed" 1 S_law_feed) (C2 : Callee m "_law_tree_right" 8 S_law_right) (C3 : Callee m "_law_any_right" 8 S_law_right) : FnOk m.P m.w m.K m.mg m.base CX0 9 f fd ["_law_script_here"] (spD m.K S_law) := by
  refine fnok_of F sc_law (ps := ["_law_script_here"]) (fun ws μ R h => by obtain ⟨_, rfl, _⟩ := h; rfl) fun X hm G fx hr ws μ R h => ?_
  subst hm
  obtain ⟨xs, rfl, hl, h⟩ := h
  let st : Option W → Option W → DS := fun a b => [some (.val (.sq (xs.map .int))), a, b]
  refine s_cons <| s_for G <| i_rng1 G T.range <| x_max2 G T.max <| x_int <| x_min2 G T.min <| x_len G T.len <| x_v G 0 ⟨xs.map .int, .lst .sq, x_int <| ii <| ii ⟨_, rfl, ?_, ?_, ?_⟩⟩
  · split <;> split <;> omega
  · split <;> split <;> omega
  have hz : ((if (if (2 : Int) < ((xs.map D.int).length : Int) then (2 : Int) else ((xs.map D.int).length : Int)) > 1 then (if (2 : Int) < ((xs.map D.int).length : Int) then (2 : Int) else ((xs.map D.int).length : Int)) else (1 : Int))).toNat ≤ 2 := by
    split <;> split <;> omega
  generalize ((if (if (2 : Int) < ((xs.map D.int).length : Int) then (2 : Int) else ((xs.map D.int).length : Int)) > 1 then (if (2 : Int) < ((xs.map D.int).length : Int) then (2 : Int) else ((xs.map D.int).length : Int)) else (1 : Int))).toNat = z at hz ⊢
  refine ⟨fun i δ μ' => ∃ a b ν, δ = st a b ∧ μ' = μ ++ ν, ⟨none, none, [], rfl, by rw [List.append_nil]⟩, fun _ _ _ _ _ => trivial, ?_, ?_⟩
  · rintro i d δ' μ' hd ⟨a, b, ν, rfl, rfl⟩
    obtain ⟨hlt, rfl⟩ := rng_get hd
    rw [Int.zero_add]
    refine g_name G 1 ?_
    refine s_cons <| s_set G 2 <| x_call G C1 hr (by decide) <| a_cons <| x_v G 0 <| a_cons <| x_v G 1 <| a_nil ⟨xs, i, rfl, by omega, fun a b ha hb hb2 => ?_⟩
    have hf : FeedAt ((μ ++ ν) ++ [cells a b 0]) (μ ++ ν).length 0 := ⟨a, b, 0, at_last, ha, hb, hb2, Int.le_refl _, Int.le_refl _⟩
    refine s_one <| s_if <| t_or <| t_not <| t_val <| x_call G C2 hr (by decide) <| a_cons <| x_v G 2 <| a_nil ⟨_, 0, rfl, hf, by omega, fun μ1 hF1 => bb ⟨fun _ => ?_, fun z => nomatch z⟩⟩
    refine w_or1 <| t_not <| t_val <| x_call G C3 hr (by decide) <| a_cons <| x_v G 2 <| a_nil ⟨_, 0 + 1000, rfl, hF1.at_, by omega, fun μ2 hF2 => bb ⟨(fun z => nomatch z), fun _ => s_nil ?_⟩⟩
    obtain ⟨a', b', c', rfl, _⟩ := hF1.trans hF2
    exact ⟨_, _, ν ++ [cells a' b' c'], rfl, by rw [set_last, List.append_assoc]⟩
  · rintro δ' μ' ⟨a, b, ν, rfl, rfl⟩
    refine s_one <| s_ret <| x_bl ?_
    show R (.val _) ((μ ++ ν).take μ.length)
    rw [List.take_left' rfl]
    exact h
theorem reps_ints {K : PySem.W.Frag} {G : Hp} : ∀ xs : List Int, Reps K G (xs.map V.int) (xs.map D.int)
  | [] => .nil
  | _ :: r => .cons (.int _) (reps_ints r)
/-- the promise for the caller's list -/
theorem law_sp {K : PySem.W.Frag} {H : Hp} {a : Addr} {ns : List Int} {E : XK} (hl : ns.length ≤ 63) (hS : SqL K H a (ns.map V.int)) : spD K S_law [.ref a] H (fun v _ => v = .bl true) E :=
  ⟨H, [], [.val (.sq (ns.map .int))], [], fun w _ => w = .val (.bl true), ⟨Ex.refl _, rfl, (fun k a m h => by simp at h), List.nodup_nil, (fun a h => nomatch h)⟩, .cons (show Rep K H _ _ from Rep.sq hS (reps_ints ns)) .nil, ⟨ns, rfl, hl, rfl⟩, fun v w G' H' A' μ' _ _ r h => by
    subst h
    cases r
    rfl⟩
end DL
set_option Elab.async false
set_option linter.all false
set_option maxRecDepth 100000
set_option maxHeartbeats 0
/-! End: printed by gen_end.py -/
namespace Hd
open PySem PySem.Spec PyProof.Rows L2 DL
section
variable {P : Program} {w : World} {K : PySem.W.Frag} {h : Heap} {mg : Str → Option Value} {base : Heap}
theorem tops (X : K.In h) (G : h.Ns mainGlobals mg) (c : He.SaysD fa fn K) : Tops ⟨P, w, K, mg, base⟩ where
  isinstance := He.free_ok X G (c.fact 61 (f := .free "isinstance") rfl)
  len := He.free_ok X G (c.fact 62 (f := .free "len") rfl)
  all := He.free_ok X G (c.fact 63 (f := .free "all") rfl)
  set := He.free_ok X G (c.fact 64 (f := .free "set") rfl)
  tuple := He.free_ok X G (c.fact 65 (f := .free "tuple") rfl)
  list := He.free_ok X G (c.fact 66 (f := .free "list") rfl)
  dict := He.free_ok X G (c.fact 67 (f := .free "dict") rfl)
  sorted := He.free_ok X G (c.fact 68 (f := .free "sorted") rfl)
  range := He.free_ok X G (c.fact 69 (f := .free "range") rfl)
  enumerate := He.free_ok X G (c.fact 70 (f := .free "enumerate") rfl)
  zip := He.free_ok X G (c.fact 71 (f := .free "zip") rfl)
  int := He.free_ok X G (c.fact 72 (f := .free "int") rfl)
  max := He.free_ok X G (c.fact 73 (f := .free "max") rfl)
  min := He.free_ok X G (c.fact 74 (f := .free "min") rfl)
  sum := He.free_ok X G (c.fact 75 (f := .free "sum") rfl)
  str := He.free_ok X G (c.fact 76 (f := .free "str") rfl)
  bool := He.free_ok X G (c.fact 77 (f := .free "bool") rfl)
  LETTERS := He.str_ok X G (c.fact 78 (f := .str "LETTERS" "abcdefghijklmnopqrstuvwxyz") rfl)
  SIGNS := He.str_ok X G (c.fact 79 (f := .str "SIGNS" "abcdefghijklmnopqrstuvwxyz0123456789") rfl)
  MOST_SIGNS := He.int_ok X G (c.fact 80 (f := .int "MOST_SIGNS" 8) rfl)
  MOST_PLACES := He.int_ok X G (c.fact 81 (f := .int "MOST_PLACES" 10) rfl)
  MOST_ROADS := He.int_ok X G (c.fact 82 (f := .int "MOST_ROADS" 14) rfl)
  MOST_ROUNDS := He.int_ok X G (c.fact 83 (f := .int "MOST_ROUNDS" 4) rfl)
  MOST_DAY := He.int_ok X G (c.fact 84 (f := .int "MOST_DAY" 1000000) rfl)
  MOST_DEEDS := He.int_ok X G (c.fact 85 (f := .int "MOST_DEEDS" 20) rfl)
  MOST_DAYS := He.int_ok X G (c.fact 86 (f := .int "MOST_DAYS" 200) rfl)
theorem tops2 (X : K.In h) (G : h.Ns mainGlobals mg) (c : He.SaysT fa fn ts w K) (cv : He.valsB K (He.ga K "SIZES") szs = true) : Tops2 ⟨P, w, K, mg, base⟩ := by
  obtain ⟨es, n, D⟩ := c.tab 0 rfl
  obtain ⟨u, h1, h2⟩ := He.valsB_ok cv (q := ("tell", .int 4)) List.mem_cons_self
  exact ⟨⟨_, He.glo_ok X G (c.d.fact 87 (f := .glo "SIZES") rfl), D.low, ⟨es, n, D.at_⟩, es, n, u, D.at_, D.lit, h1, h2⟩⟩
theorem stands (X : K.In h) (G : h.Ns mainGlobals mg) (c : He.SaysD fa fn K) {x : Str} {st : Stmt} (i j : Nat) (hd : fn[i]? = some ⟨(x, none), x, x, defArgs st, defBody st, defScope st, [], []⟩) (hf : fa[j]? = some (.glo x)) : Stands ⟨P, w, K, mg, base⟩ x st := by
  obtain ⟨fd, F⟩ := c.def_ i hd
  exact ⟨_, fd, He.glo_ok X G (c.fact j hf), F⟩
end
theorem facts {P : Program} {w : World} {K : PySem.W.Frag} {h : Heap} {mg : Str → Option Value} {f : Addr} (X : K.In h) (G : h.Ns mainGlobals mg) (hfa : mg ("law" : Str) = some (.ref f)) (c : He.SaysT fa fn ts w K) (cv : He.valsB K (He.ga K "SIZES") szs = true) :
    ∃ fd : FuncData, (∀ (s : Shared) (v : Value), BindsTo s fd ⟨[v], []⟩ [("_law_script_here", v)]) ∧ ∀ base : Heap, K.In base → base.Ns mainGlobals mg → FnOk P w K mg base CX0 9 f fd ["_law_script_here"] (DL.spD K DL.S_law) := by
  obtain ⟨fd, F⟩ := c.d.def_ 60 (d := dd "law" 89) rfl
  have e := hfa.symm.trans (He.glo_ok X G (c.d.fact 60 (f := .glo "law") rfl))
  cases e
  have b := FunD.bindsA (ps := ["_law_script_here"]) F fun _ _ _ _ _ _ us hl => match us, hl with | [_], _ => rfl
  refine ⟨fd, fun s v => b s [v] rfl, fun base _ _ => ?_⟩
  have T : Tops ⟨P, w, K, mg, base⟩ := tops X G c.d
  have T2 : Tops2 ⟨P, w, K, mg, base⟩ := tops2 X G c cv
  obtain ⟨m, hm⟩ : ∃ m : Mo, m = ⟨P, w, K, mg, base⟩ := ⟨_, rfl⟩
  have F__law_feed : Stands m "_law_feed" (DL.top 70) := hm ▸ stands X G c.d 41 41 rfl rfl
  have F__law_tree_right : Stands m "_law_tree_right" (DL.top 87) := hm ▸ stands X G c.d 58 58 rfl rfl
  have F__law_sized_web : Stands m "_law_sized_web" (DL.top 85) := hm ▸ stands X G c.d 56 56 rfl rfl
  have F__law_draw : Stands m "_law_draw" (DL.top 71) := hm ▸ stands X G c.d 42 42 rfl rfl
  have F__law_web : Stands m "_law_web" (DL.top 75) := hm ▸ stands X G c.d 46 46 rfl rfl
  have F__law_one : Stands m "_law_one" (DL.top 72) := hm ▸ stands X G c.d 43 43 rfl rfl
  have F__law_mixed : Stands m "_law_mixed" (DL.top 73) := hm ▸ stands X G c.d 44 44 rfl rfl
  have F__law_names : Stands m "_law_names" (DL.top 74) := hm ▸ stands X G c.d 45 45 rfl rfl
  have F__law_great_web : Stands m "_law_great_web" (DL.top 84) := hm ▸ stands X G c.d 55 55 rfl rfl
  have F__law_rota : Stands m "_law_rota" (DL.top 76) := hm ▸ stands X G c.d 47 47 rfl rfl
  have F__law_told_all : Stands m "_law_told_all" (DL.top 86) := hm ▸ stands X G c.d 57 57 rfl rfl
  have F__law_words : Stands m "_law_words" (DL.top 80) := hm ▸ stands X G c.d 51 51 rfl rfl
  have F_run_script : Stands m "run_script" (DL.top 59) := hm ▸ stands X G c.d 34 34 rfl rfl
  have F_rows_of : Stands m "rows_of" (DL.top 58) := hm ▸ stands X G c.d 33 33 rfl rfl
  have F_need_web : Stands m "need_web" (DL.top 31) := hm ▸ stands X G c.d 13 13 rfl rfl
  have F_is_web_form : Stands m "is_web_form" (DL.top 30) := hm ▸ stands X G c.d 12 12 rfl rfl
  have F_is_row_of : Stands m "is_row_of" (DL.top 15) := hm ▸ stands X G c.d 3 3 rfl rfl
  have F_are_names : Stands m "are_names" (DL.top 28) := hm ▸ stands X G c.d 10 10 rfl rfl
  have F_is_name : Stands m "is_name" (DL.top 14) := hm ▸ stands X G c.d 2 2 rfl rfl
  have F_is_road : Stands m "is_road" (DL.top 29) := hm ▸ stands X G c.d 11 11 rfl rfl
  have F_are_of : Stands m "are_of" (DL.top 16) := hm ▸ stands X G c.d 4 4 rfl rfl
  have F_need_week : Stands m "need_week" (DL.top 36) := hm ▸ stands X G c.d 18 18 rfl rfl
  have F_is_round : Stands m "is_round" (DL.top 35) := hm ▸ stands X G c.d 17 17 rfl rfl
  have F_names_of_roads : Stands m "names_of_roads" (DL.top 19) := hm ▸ stands X G c.d 6 6 rfl rfl
  have F_is_script : Stands m "is_script" (DL.top 50) := hm ▸ stands X G c.d 28 28 rfl rfl
  have F_is_deed : Stands m "is_deed" (DL.top 47) := hm ▸ stands X G c.d 25 25 rfl rfl
  have F_is_moment : Stands m "is_moment" (DL.top 38) := hm ▸ stands X G c.d 20 20 rfl rfl
  have F_is_within : Stands m "is_within" (DL.top 13) := hm ▸ stands X G c.d 1 1 rfl rfl
  have F_is_integer : Stands m "is_integer" (DL.top 12) := hm ▸ stands X G c.d 0 0 rfl rfl
  have F_round_of : Stands m "round_of" (DL.top 37) := hm ▸ stands X G c.d 19 19 rfl rfl
  have F_is_place : Stands m "is_place" (DL.top 32) := hm ▸ stands X G c.d 14 14 rfl rfl
  have F_words_of : Stands m "words_of" (DL.top 48) := hm ▸ stands X G c.d 26 26 rfl rfl
  have F_are_unlike : Stands m "are_unlike" (DL.top 49) := hm ▸ stands X G c.d 27 27 rfl rfl
  have F_need_count : Stands m "need_count" (DL.top 17) := hm ▸ stands X G c.d 5 5 rfl rfl
  have F_happenings : Stands m "happenings" (DL.top 54) := hm ▸ stands X G c.d 31 31 rfl rfl
  have F_comings : Stands m "comings" (DL.top 52) := hm ▸ stands X G c.d 30 30 rfl rfl
  have F_arrivals_from : Stands m "arrivals_from" (DL.top 43) := hm ▸ stands X G c.d 24 24 rfl rfl
  have F_ends_by_road : Stands m "ends_by_road" (DL.top 41) := hm ▸ stands X G c.d 22 22 rfl rfl
  have F_news_places : Stands m "news_places" (DL.top 42) := hm ▸ stands X G c.d 23 23 rfl rfl
  have F_last_moment : Stands m "last_moment" (DL.top 51) := hm ▸ stands X G c.d 29 29 rfl rfl
  have F_distance : Stands m "distance" (DL.top 68) := hm ▸ stands X G c.d 40 40 rfl rfl
  have F_need_place : Stands m "need_place" (DL.top 33) := hm ▸ stands X G c.d 15 15 rfl rfl
  have F_distance_rows : Stands m "distance_rows" (DL.top 22) := hm ▸ stands X G c.d 9 9 rfl rfl
  have F_steps_from : Stands m "steps_from" (DL.top 21) := hm ▸ stands X G c.d 8 8 rfl rfl
  have F_other_end : Stands m "other_end" (DL.top 20) := hm ▸ stands X G c.d 7 7 rfl rfl
  have F_place_number : Stands m "place_number" (DL.top 34) := hm ▸ stands X G c.d 16 16 rfl rfl
  have F__law_any_right : Stands m "_law_any_right" (DL.top 88) := hm ▸ stands X G c.d 59 59 rfl rfl
  have F__law_week : Stands m "_law_week" (DL.top 77) := hm ▸ stands X G c.d 48 48 rfl rfl
  have F__law_count : Stands m "_law_count" (DL.top 83) := hm ▸ stands X G c.d 54 54 rfl rfl
  have F_standing : Stands m "standing" (DL.top 60) := hm ▸ stands X G c.d 35 35 rfl rfl
  have F_places_of : Stands m "places_of" (DL.top 55) := hm ▸ stands X G c.d 32 32 rfl rfl
  have F__law_end : Stands m "_law_end" (DL.top 82) := hm ▸ stands X G c.d 53 53 rfl rfl
  have F__law_round : Stands m "_law_round" (DL.top 79) := hm ▸ stands X G c.d 50 50 rfl rfl
  have F_known_at : Stands m "known_at" (DL.top 63) := hm ▸ stands X G c.d 37 37 rfl rfl
  have F_need_moment : Stands m "need_moment" (DL.top 39) := hm ▸ stands X G c.d 21 21 rfl rfl
  have F_moment_rows : Stands m "moment_rows" (DL.top 62) := hm ▸ stands X G c.d 36 36 rfl rfl
  have F__law_script : Stands m "_law_script" (DL.top 81) := hm ▸ stands X G c.d 52 52 rfl rfl
  have F__law_moment : Stands m "_law_moment" (DL.top 78) := hm ▸ stands X G c.d 49 49 rfl rfl
  have F_arrivals : Stands m "arrivals" (DL.top 66) := hm ▸ stands X G c.d 39 39 rfl rfl
  have F_need_start : Stands m "need_start" (DL.top 65) := hm ▸ stands X G c.d 38 38 rfl rfl
  rw [← hm] at T T2
  have c__law_feed_S_law_feed : Callee m "_law_feed" 1 S_law_feed := ok_law_feed T F__law_feed
  have c__law_draw_S_law_draw : Callee m "_law_draw" 1 S_law_draw := ok_law_draw T F__law_draw
  have c__law_one_S_law_one : Callee m "_law_one" 2 S_law_one := ok_law_one T F__law_one c__law_draw_S_law_draw
  have c__law_mixed_S_law_mixed : Callee m "_law_mixed" 2 S_law_mixed := ok_law_mixed T F__law_mixed c__law_draw_S_law_draw
  have c__law_names_S_law_names : Callee m "_law_names" 3 S_law_names := ok_law_names T F__law_names c__law_mixed_S_law_mixed
  have c__law_web_S_law_web : Callee m "_law_web" 4 S_law_web := ok_law_web T F__law_web c__law_draw_S_law_draw c__law_one_S_law_one c__law_mixed_S_law_mixed c__law_names_S_law_names
  have c__law_great_web_S_law_web : Callee m "_law_great_web" 4 S_law_web := ok_law_great_web T F__law_great_web c__law_draw_S_law_draw c__law_one_S_law_one c__law_mixed_S_law_mixed c__law_names_S_law_names
  have c__law_sized_web_S_law_sized_web : Callee m "_law_sized_web" 5 S_law_sized_web := ok_law_sized_web T F__law_sized_web c__law_draw_S_law_draw c__law_web_S_law_web c__law_great_web_S_law_web
  have c__law_rota_S_law_rota : Callee m "_law_rota" 3 S_law_rota := ok_law_rota T F__law_rota c__law_mixed_S_law_mixed
  have c__law_mixed_S_law_mixedO : Callee m "_law_mixed" 2 S_law_mixedO := ok_law_mixedO T F__law_mixed c__law_draw_S_law_draw
  have c__law_words_S_law_wordsO : Callee m "_law_words" 3 S_law_wordsO := ok_law_wordsO T F__law_words c__law_mixed_S_law_mixedO
  have c__law_told_all_S_law_told_all : Callee m "_law_told_all" 4 S_law_told_all := ok_law_told_all T F__law_told_all c__law_mixed_S_law_mixed c__law_words_S_law_wordsO
  have c_is_row_of_S_is_row_of : Callee m "is_row_of" 1 S_is_row_of := ok_is_row_of T F_is_row_of
  have c_is_name_S_is_name : Callee m "is_name" 1 S_is_name := ok_is_name T F_is_name
  have c_are_names_S_are_names : Callee m "are_names" 2 S_are_names := ok_are_names T F_are_names c_is_name_S_is_name
  have c_are_of_S_are_of : Callee m "are_of" 1 S_are_of := ok_are_of T F_are_of
  have c_is_road_S_is_road : Callee m "is_road" 2 S_is_road := ok_is_road T F_is_road c_is_row_of_S_is_row_of c_is_name_S_is_name c_are_of_S_are_of
  have c_is_web_form_S_is_web_form : Callee m "is_web_form" 3 S_is_web_form := ok_is_web_form T F_is_web_form c_is_row_of_S_is_row_of c_are_names_S_are_names c_is_road_S_is_road
  have c_need_web_S_need_web : Callee m "need_web" 4 S_need_web := ok_need_web F_need_web c_is_web_form_S_is_web_form
  have c_names_of_roads_S_names_of_roads : Callee m "names_of_roads" 1 S_names_of_roads := ok_names_of_roads T F_names_of_roads
  have c_is_round_S_is_round : Callee m "is_round" 2 S_is_round := ok_is_round T F_is_round c_are_of_S_are_of c_names_of_roads_S_names_of_roads
  have c_need_week_S_need_week : Callee m "need_week" 3 S_need_week := ok_need_week T F_need_week c_is_row_of_S_is_row_of c_is_round_S_is_round
  have c_is_integer_S_is_integer : Callee m "is_integer" 1 S_is_integer := ok_is_integer T F_is_integer
  have c_is_within_S_is_within : Callee m "is_within" 2 S_is_within := ok_is_within T F_is_within c_is_integer_S_is_integer
  have c_round_of_S_round_of : Callee m "round_of" 1 S_round_of := ok_round_of T F_round_of
  have c_is_moment_S_is_moment : Callee m "is_moment" 3 S_is_moment := ok_is_moment T F_is_moment c_is_row_of_S_is_row_of c_is_within_S_is_within c_round_of_S_round_of
  have c_is_place_S_is_place : Callee m "is_place" 1 S_is_place := ok_is_place T F_is_place
  have c_is_deed_S_is_deed : Callee m "is_deed" 4 S_is_deed := ok_is_deed T T2 F_is_deed c_is_moment_S_is_moment c_is_name_S_is_name c_is_place_S_is_place
  have c_words_of_S_words_of : Callee m "words_of" 1 S_words_of := ok_words_of F_words_of
  have c_are_unlike_S_are_unlike : Callee m "are_unlike" 1 S_are_unlike := ok_are_unlike T F_are_unlike
  have c_is_script_S_is_script : Callee m "is_script" 5 S_is_script := ok_is_script T F_is_script c_is_deed_S_is_deed c_words_of_S_words_of c_are_unlike_S_are_unlike
  have c_need_count_S_need_count : Callee m "need_count" 3 S_need_count := ok_need_count T F_need_count c_is_within_S_is_within
  have c_ends_by_road_S_ends_by_road : Callee m "ends_by_road" 1 S_ends_by_road := ok_ends_by_road F_ends_by_road
  have c_news_places_S_news_places : Callee m "news_places" 2 S_news_places := ok_news_places T F_news_places c_ends_by_road_S_ends_by_road
  have c_arrivals_from_S_arrivals_from : Callee m "arrivals_from" 3 S_arrivals_from := ok_arrivals_from T F_arrivals_from c_ends_by_road_S_ends_by_road c_news_places_S_news_places c_round_of_S_round_of
  have c_comings_S_comings : Callee m "comings" 4 S_comings := ok_comings T F_comings c_arrivals_from_S_arrivals_from
  have c_happenings_S_happenings : Callee m "happenings" 5 S_happenings := ok_happenings T F_happenings c_comings_S_comings
  have c_last_moment_S_last_moment : Callee m "last_moment" 2 S_last_moment := ok_last_moment T F_last_moment c_round_of_S_round_of
  have c_rows_of_S_rows_of : Callee m "rows_of" 6 S_rows_of := ok_rows_of T F_rows_of c_need_web_S_need_web c_need_week_S_need_week c_is_script_S_is_script c_need_count_S_need_count c_happenings_S_happenings c_last_moment_S_last_moment
  have c_run_script_S_run_script : Callee m "run_script" 7 S_run_script := ok_run_script F_run_script c_rows_of_S_rows_of
  have c_need_place_S_need_place : Callee m "need_place" 2 S_need_place := ok_need_place F_need_place c_is_place_S_is_place
  have c_other_end_S_other_end : Callee m "other_end" 1 S_other_end := ok_other_end T F_other_end
  have c_steps_from_S_steps_from : Callee m "steps_from" 2 S_steps_from := ok_steps_from F_steps_from c_other_end_S_other_end
  have c_distance_rows_S_distance_rows : Callee m "distance_rows" 3 S_distance_rows := ok_distance_rows F_distance_rows c_steps_from_S_steps_from
  have c_place_number_S_place_number : Callee m "place_number" 1 S_place_number := ok_place_number F_place_number
  have c_distance_S_distance : Callee m "distance" 5 S_distance := ok_distance F_distance c_need_web_S_need_web c_need_place_S_need_place c_distance_rows_S_distance_rows c_place_number_S_place_number
  have c__law_tree_right_S_law_right : Callee m "_law_tree_right" 8 S_law_right := ok_law_tree_right T F__law_tree_right c__law_sized_web_S_law_sized_web c__law_rota_S_law_rota c__law_told_all_S_law_told_all c_run_script_S_run_script c_distance_S_distance
  have c__law_week_S_law_week : Callee m "_law_week" 4 S_law_week := ok_law_week T F__law_week c__law_rota_S_law_rota c__law_draw_S_law_draw c__law_mixed_S_law_mixed
  have c__law_count_S_law_count : Callee m "_law_count" 3 S_law_count := ok_law_count T F__law_count c__law_draw_S_law_draw c__law_one_S_law_one
  have c_places_of_S_places_of : Callee m "places_of" 1 S_places_of := ok_places_of F_places_of
  have c_standing_S_standing : Callee m "standing" 7 S_standing := ok_standing T F_standing c_rows_of_S_rows_of c_words_of_S_words_of c_places_of_S_places_of
  have c__law_round_S_law_round : Callee m "_law_round" 1 S_law_round := ok_law_round T F__law_round
  have c__law_end_S_law_end : Callee m "_law_end" 2 S_law_end := ok_law_end T F__law_end c__law_round_S_law_round
  have c_need_moment_S_need_moment : Callee m "need_moment" 4 S_need_moment := ok_need_moment F_need_moment c_need_week_S_need_week c_is_moment_S_is_moment
  have c_moment_rows_S_moment_rows : Callee m "moment_rows" 4 S_moment_rows := ok_moment_rows F_moment_rows c_arrivals_from_S_arrivals_from
  have c_known_at_S_known_at : Callee m "known_at" 5 S_known_at := ok_known_at T F_known_at c_need_web_S_need_web c_need_week_S_need_week c_need_moment_S_need_moment c_moment_rows_S_moment_rows
  have c__law_moment_S_law_moment : Callee m "_law_moment" 2 S_law_moment := ok_law_moment T F__law_moment c__law_draw_S_law_draw c__law_round_S_law_round
  have c__law_script_S_law_script : Callee m "_law_script" 4 S_law_script := ok_law_script T F__law_script c__law_draw_S_law_draw c__law_one_S_law_one c__law_moment_S_law_moment c__law_words_S_law_wordsO
  have c_need_start_S_need_start : Callee m "need_start" 5 S_need_start := ok_need_start F_need_start c_need_web_S_need_web c_need_week_S_need_week c_need_place_S_need_place c_need_moment_S_need_moment
  have c_arrivals_S_arrivals : Callee m "arrivals" 6 S_arrivals := ok_arrivals F_arrivals c_need_start_S_need_start c_arrivals_from_S_arrivals_from
  have c__law_any_right_S_law_right : Callee m "_law_any_right" 8 S_law_right := ok_law_any_right T F__law_any_right c__law_sized_web_S_law_sized_web c__law_week_S_law_week c__law_count_S_law_count c__law_told_all_S_law_told_all c_standing_S_standing c__law_end_S_law_end c_known_at_S_known_at c__law_script_S_law_script c_arrivals_S_arrivals c_run_script_S_run_script
  have Z := fun (f : Addr) (F' : FunD m.K "law" "law" (defArgs s_law) (defBody s_law) (defScope s_law) [] [] f fd) => ok_law T F' c__law_feed_S_law_feed c__law_tree_right_S_law_right c__law_any_right_S_law_right
  subst hm
  exact Z _ F
end Hd
open PySem PySem.W PySem.Calls PyProof.Rows
theorem PySem.Challenge.cw_roundpost_k85_whole_news_of_all_places_holds : PySem.Challenge.rw_roundpost_k85_whole_news_of_all_places.Holds := by
  w_on; o_law
  refine HandSHeadRun.head_any (r := OpenLaw.row PySem.Challenge.rw_roundpost_k85_whole_news_of_all_places) (q := view (OpenLaw.row PySem.Challenge.rw_roundpost_k85_whole_news_of_all_places).prog [89]) (H := Hd.hk) (ob := Hd.ob) (M := 4000) (loose := Hd.names) (d := HandSHeadRun.topDef (OpenLaw.row PySem.Challenge.rw_roundpost_k85_whole_news_of_all_places).prog 89) (kwd := []) Hd.ob_eq
    (by kernel_rfl) (fun s => by kernel_rfl) Hd.run (by kernel_rfl) (by kernel_rfl) (by kernel_rfl) (by rfl) (by first | assumption | decide +kernel) (by decide +kernel) ⟨rfl, rfl, rfl, rfl, rfl, by decide +kernel⟩ ?hw ?hc
  case hw => w_witness2
  case hc =>
    refine L2.walk_ofE (l := PySem.Challenge.rw_roundpost_k85_whole_news_of_all_places) (n := 63) (k := 9) (x := "_law_script_here") (CX := L2.CX0) rfl (by decide) (by kernel_rfl) ⟨rfl, by decide, by decide⟩ ?F (fun _ _ _ _ z => z)
    intro w mg fa h Y G hmg0
    obtain ⟨K, KX, c, cv⟩ := Y
    have hmg : mg ("law" : PySem.Str) = some (.ref fa) := by
      have e : (HandSHeadRun.topDef (OpenLaw.row PySem.Challenge.rw_roundpost_k85_whole_news_of_all_places).prog 89).name = ("law" : PySem.Str) := by kernel_rfl
      rw [← e]
      exact hmg0
    obtain ⟨fd, hb, hF⟩ := Hd.facts (P := (PySem.Challenge.rw_roundpost_k85_whole_news_of_all_places).prog) (w := w) KX G hmg c cv
    exact ⟨K, fd, DL.spD K DL.S_law, KX, hb, fun H a ns hl _ hS => DL.law_sp hl hS, hF⟩
