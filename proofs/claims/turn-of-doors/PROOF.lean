import PyProof.Rows.All
import Wide.All
import OpenK.AllK
import Wide.FinOn
import HandS.ForMost
import HandS.Evl
import HandS.Codes
import HandS.Rev
import KE.GoesEnum
import HandS.Iter
import HandS.Walk
import HandS.TupAny
import HandS.SortInts
import HandS.WideBits
import HandS.IsInst
import PySem.Challenge.RW_nesthall_k26_a_turn_of_doors
set_option Elab.async false
set_option linter.all false
set_option maxRecDepth 100000
/-! NhData: the plain data of the law, and what the program computes as plain functions. -/
namespace Nh
open PySem
inductive Deed where
  | say (w : Str) | send (e : Int) | add (n : Int)
inductive Guard where
  | yes | under (n : Int)
inductive Way where
  | to | back | stay
  deriving DecidableEq
structure Room where
  name : Str
  kind : Str
  depth : Int
  keeps : Str
  ins : List Deed
  outs : List Deed
structure Door where
  room : Int
  event : Int
  guard : Guard
  deeds : List Deed
  way : Way
  goal : Int
structure Chart where
  inner : Bool
  most : Int
  names : PyData
  rooms : List Room
  doors : List Door
structure Stand where
  opening : List Int
  box : Int
  kept : List (List Int)
/-- an entry of a record -/
inductive Ent where
  | num (w : Str) (n : Int) | say (w : Str) | put (n : Int)
def defRoom : Room := ⟨"", "", 0, "", [], []⟩
def defDoor : Door := ⟨0, 0, .yes, [], .stay, 0⟩
/-! ### as data -/
def eDeed : Deed → PyData
  | .say w => .tuple [.str "say", .str w]
  | .send e => .tuple [.str "send", .int e]
  | .add n => .tuple [.str "add", .int 0, .int n]
def eGuard : Guard → PyData
  | .yes => .tuple [.str "yes"]
  | .under n => .tuple [.str "under", .int 0, .int n]
def eWay : Way → Str
  | .to => "to"
  | .back => "back"
  | .stay => "stay"
def eGoal (d : Door) : PyData := match d.way with
  | .stay => .none
  | _ => .int d.goal
def eDeeds (ds : List Deed) : PyData := .tuple (ds.map eDeed)
def eRoom (r : Room) : PyData := .tuple [.str r.name, .str r.kind, .int r.depth, .str r.keeps, .str "", eDeeds r.ins, eDeeds r.outs]
def eRooms (rs : List Room) : PyData := .tuple (rs.map eRoom)
def eDoor (d : Door) : PyData := .tuple [.int d.room, .int d.event, eGuard d.guard, eDeeds d.deeds, .str (eWay d.way), eGoal d]
def eDoors (ds : List Door) : PyData := .tuple (ds.map eDoor)
def eOrd (b : Bool) : Str := if b then "inner" else "outer"
def eBoxes : PyData := .tuple [.tuple [.str "cup", .int 5, .int 1]]
def eChart (c : Chart) : PyData := .tuple [.str (eOrd c.inner), .int c.most, .int 3, eBoxes, c.names, eRooms c.rooms, eDoors c.doors]
def eInts (ns : List Int) : PyData := .tuple (ns.map PyData.int)
def eBox (b : Int) : PyData := .tuple [.int b]
def eKept (k : List (List Int)) : PyData := .tuple (k.map eInts)
def eStand (s : Stand) : PyData := .tuple [eInts s.opening, eBox s.box, eKept s.kept]
def eEnt : Ent → PyData
  | .num w n => .tuple [.str w, .int n]
  | .say w => .tuple [.str "say", .str w]
  | .put n => .tuple [.str "put", .int 0, .int n]
/-! ### what is computed -/
def roomAt (R : List Room) (i : Int) : Room := R.getD i.toNat defRoom
def doorAt (D : List Door) (i : Int) : Door := D.getD i.toNat defDoor
def rowAt (k : List (List Int)) (i : Int) : List Int := k.getD i.toNat []
def dep (R : List Room) (i : Int) : Int := (roomAt R i).depth
def kind (R : List Room) (i : Int) : Str := (roomAt R i).kind
def keeps (R : List Room) (i : Int) : Str := (roomAt R i).keeps
def parGo (R : List Room) (d : Int) : Nat → Option Int
  | 0 => none
  | n + 1 => if dep R (n : Int) < d then some (n : Int) else parGo R d n
def parentF (R : List Room) (room : Int) : Option Int := parGo R (dep R room) room.toNat
def endGo (R : List Room) (d : Int) : Nat → Nat → Nat
  | 0, k => k
  | f + 1, k => if d < dep R (k : Int) then endGo R d f (k + 1) else k
def endF (R : List Room) (room : Int) : Int := (endGo R (dep R room) (R.length - (room.toNat + 1)) (room.toNat + 1) : Nat)
def rng (lo : Int) (n : Nat) : List Int := (List.range n).map fun (i : Nat) => lo + (i : Int)
def kidsF (R : List Room) (room : Int) : List Int := (rng (room + 1) (endF R room - (room + 1)).toNat).filter fun k => decide (dep R k = dep R room + 1)
def liesF (R : List Room) (one other : Int) : Bool := decide (other < one) && decide (one < endF R other)
def hallGo (R : List Room) (other : Int) : Nat → Option Int → Option Int
  | 0, _ => none
  | _ + 1, none => none
  | f + 1, some a => if (decide (kind R a = "one") && liesF R other a) = true then some a else hallGo R other f (parentF R a)
def hallF (R : List Room) (one other : Int) : Option Int := hallGo R other (one.toNat + 1) (parentF R one)
def bearsF (R : List Room) (room : Int) (goals : List Int) : Bool := goals.any fun g => decide (g = room) || liesF R g room
def enteredF (R : List Room) (room : Int) (goals : List Int) : List Int :=
  if kind R room = "one" then (match (kidsF R room).find? fun k => bearsF R k goals with
    | some k => [k]
    | none => (kidsF R room).take 1)
  else kidsF R room
def goGo (R : List Room) (goals : List Int) : Nat → Int → List Int
  | 0, _ => []
  | f + 1, u => (enteredF R u goals).flatMap fun k => k :: goGo R goals f k
def goIn (R : List Room) (goals : List Int) (u : Int) : List Int := goGo R goals (4 - dep R u).toNat u
def goingsF (R : List Room) (under : Option Int) (goals : List Int) : List Int := match under with
  | none => 0 :: goIn R goals 0
  | some u => goIn R goals u
def outF (R : List Room) (under : Option Int) (r : Int) : Bool := match under with
  | none => true
  | some u => liesF R r u
def leftF (R : List Room) (under : Option Int) (opening : List Int) : List Int := opening.reverse.filter (outF R under)
def plainF (R : List Room) (some : List Int) : List Int := some.filter fun r => decide (kind R r = "plain")
def keptF (R : List Room) (opening : List Int) (room : Int) (before : List Int) : List Int :=
  if keeps R room = "deep" then (plainF R opening).filter fun r => liesF R r room else before
def keepingF (R : List Room) (opening left : List Int) (k : List (List Int)) : List (List Int) :=
  (List.range R.length).map fun (i : Nat) => if (i : Int) ∈ left then keptF R opening (i : Int) (rowAt k (i : Int)) else rowAt k (i : Int)
def goalsF (k : List (List Int)) (d : Door) : List Int := match d.way with
  | .stay => []
  | .back => if rowAt k d.goal = [] then [d.goal] else rowAt k d.goal
  | .to => [d.goal]
/-- the boxes' one number, the letters that wait, the record -/
structure Pst where
  box : Int
  line : List Int
  told : List Ent
def deedF (most : Int) (s : Pst) : Deed → Pst
  | .say w => ⟨s.box, s.line, s.told ++ [.say w]⟩
  | .send e => if most ≤ (s.line.length : Int) then ⟨s.box, s.line, s.told ++ [.num "lost" e]⟩ else ⟨s.box, s.line ++ [e], s.told ++ [.num "send" e]⟩
  | .add n => ⟨(s.box + n) % 5, s.line, s.told ++ [.put ((s.box + n) % 5)]⟩
def doneF (most b : Int) (line : List Int) (ds : List Deed) : Pst := ds.foldl (deedF most) ⟨b, line, []⟩
def stepF (most : Int) (s : Pst) (w : Str) (n : Int) (ds : List Deed) : Pst :=
  ⟨(doneF most s.box s.line ds).box, (doneF most s.box s.line ds).line, (s.told ++ [.num w n]) ++ (doneF most s.box s.line ds).told⟩
def outsF (most : Int) (R : List Room) (s : Pst) (left : List Int) : Pst := left.foldl (fun s r => stepF most s "out" r (roomAt R r).outs) s
def insF (most : Int) (R : List Room) (s : Pst) (gone : List Int) : Pst := gone.foldl (fun s r => stepF most s "in" r (roomAt R r).ins) s
def sortF (ns : List Int) : List Int := ns.mergeSort (fun a b => decide (a ≤ b))
structure Got where
  stand : Stand
  told : List Ent
  line : List Int
def gotOf (opening : List Int) (kept : List (List Int)) (s : Pst) : Got := ⟨⟨opening, s.box, kept⟩, s.told, s.line⟩
def passStart (c : Chart) (S : Stand) (k : Int) (line : List Int) : Pst := stepF c.most ⟨S.box, line, []⟩ "door" k []
def passGo (c : Chart) (S : Stand) (k : Int) (line : List Int) (under : Option Int) (left gone : List Int) : Pst :=
  insF c.most c.rooms (stepF c.most (outsF c.most c.rooms (passStart c S k line) left) "through" k (doorAt c.doors k).deeds) gone
def underF (c : Chart) (k : Int) : Option Int := hallF c.rooms (doorAt c.doors k).room (doorAt c.doors k).goal
def passLeft (c : Chart) (S : Stand) (k : Int) : List Int := leftF c.rooms (underF c k) S.opening
def passKept (c : Chart) (S : Stand) (k : Int) : List (List Int) := keepingF c.rooms S.opening (passLeft c S k) S.kept
def passGone (c : Chart) (S : Stand) (k : Int) : List Int := goingsF c.rooms (underF c k) (goalsF (passKept c S k) (doorAt c.doors k))
def passStay (S : Stand) (left : List Int) : List Int := S.opening.filter fun r => !decide (r ∈ left)
def passedF (c : Chart) (S : Stand) (k : Int) (line : List Int) : Got :=
  if (doorAt c.doors k).way = .stay then gotOf S.opening S.kept (stepF c.most (passStart c S k line) "through" k (doorAt c.doors k).deeds)
  else gotOf (sortF (passStay S (passLeft c S k) ++ passGone c S k)) (passKept c S k) (passGo c S k line (underF c k) (passLeft c S k) (passGone c S k))
def outOf : Ent → Option Int
  | .num w n => if w = "out" then some n else none
  | _ => none
def turnGo (c : Chart) : List Int → Stand → List Ent → List Int → List Int → Got
  | [], S, r, _, line => ⟨S, r, line⟩
  | k :: ks, S, r, left, line =>
    if (doorAt c.doors k).room ∈ left then turnGo c ks S r left line
    else turnGo c ks (passedF c S k line).stand (r ++ (passedF c S k line).told) (left ++ (passedF c S k line).told.filterMap outOf) (passedF c S k line).line
def holdsF (S : Stand) : Guard → Bool
  | .yes => true
  | .under n => decide (S.box < n)
def doorFits (S : Stand) (room event : Int) (d : Door) : Bool := decide (d.room = room) && (decide (d.event = event) && holdsF S d.guard)
def ansGo (S : Stand) (room event : Int) : List Door → Nat → Option Int
  | [], _ => none
  | d :: ds, k => if doorFits S room event d = true then some (k : Int) else ansGo S room event ds (k + 1)
def ansF (c : Chart) (S : Stand) (room event : Int) : Option Int := ansGo S room event c.doors 0
def answersF (c : Chart) (S : Stand) (event : Int) : List (Int × Int) := S.opening.filterMap fun r => (ansF c S r event).map fun d => (r, d)
def aheadF (c : Chart) (r o : Int) : Bool := if c.inner then liesF c.rooms o r else liesF c.rooms r o
def chosenF (c : Chart) (S : Stand) (event : Int) : List Int :=
  ((answersF c S event).filter fun p => !((answersF c S event).map Prod.fst).any (aheadF c p.1)).map Prod.snd
def turnF (c : Chart) (S : Stand) (event : Int) (line : List Int) : Got := turnGo c (chosenF c S event) S [.num "take" event] [] line
/-! ### what holds of what the law builds -/
structure RoomsOk (R : List Room) : Prop where
  pos : 0 < R.length
  most : R.length ≤ 20
  dep0 : dep R 0 = 0
  depth : ∀ k : Int, 0 ≤ k → k < R.length → 0 ≤ dep R k ∧ dep R k ≤ 3
  one : ∀ k : Int, 0 ≤ k → k < R.length → dep R k = 0 ∨ dep R k = 2 → kind R k = "one"
  keep : ∀ k : Int, 0 ≤ k → k < R.length → keeps R k = "" ∨ keeps R k = "deep"
  ins : ∀ k : Int, 0 ≤ k → k < R.length → (roomAt R k).ins.length ≤ 3
  outs : ∀ k : Int, 0 ≤ k → k < R.length → (roomAt R k).outs.length ≤ 3
structure DoorOk (R : List Room) (d : Door) : Prop where
  room : 0 ≤ d.room ∧ d.room < R.length
  goal : d.way ≠ .stay → 0 ≤ d.goal ∧ d.goal < R.length
  deeds : d.deeds.length ≤ 3
structure ChartOk (c : Chart) : Prop where
  rooms : RoomsOk c.rooms
  doors : ∀ k : Int, 0 ≤ k → k < c.doors.length → DoorOk c.rooms (doorAt c.doors k)
  many : c.doors.length ≤ 14
  most : 0 ≤ c.most ∧ c.most ≤ 7
structure StandOk (R : List Room) (n : Nat) (S : Stand) : Prop where
  inr : ∀ r ∈ S.opening, 0 ≤ r ∧ r < R.length
  len : S.opening.length ≤ n
  kept : S.kept.length = R.length
  rows : ∀ row ∈ S.kept, row.length ≤ n
end Nh
/-! NhKit: readings over plain data (EvD), defs' promises over plain data (spD, spL), loops over them. -/
namespace Nh
open PySem PySem.Spec PyProof.Rows L2 Evl
theorem nb_t {b : Bool} (h : (!b) = true) : b = false := by
  cases b
  · rfl
  · cases h
theorem nb_f {b : Bool} (h : (!b) = false) : b = true := by
  cases b
  · cases h
  · rfl
theorem flat_congr {α β : Type} {f g : α → List β} : ∀ {l : List α}, (∀ x ∈ l, f x = g x) → l.flatMap f = l.flatMap g
  | [], _ => rfl
  | x :: l, h => by
    rw [List.flatMap_cons, List.flatMap_cons, h x List.mem_cons_self, flat_congr (l := l) fun y hy => h y (List.mem_cons_of_mem _ hy)]
/-! ### heaps in which tuples stand -/
def TK (H H' : Hp) : Prop := ∀ a xs, Rd H a (.tup xs) → Rd H' a (.tup xs)
theorem TK.refl (H : Hp) : TK H H := fun _ _ h => h
theorem TK.trans {H H1 H2 : Hp} (a : TK H H1) (b : TK H1 H2) : TK H H2 := fun x xs h => b x xs (a x xs h)
theorem tk_ex {H H' : Hp} (e : Ex H H') : TK H H' := fun _ _ h => ex_rd e h
/-- all that stood but what is at l stands -/
def Ch (l : Addr) (H H' : Hp) : Prop := ∀ b o, H b = some o → b ≠ l → H' b = some o
theorem Ch.refl (l : Addr) (H : Hp) : Ch l H H := fun _ _ h _ => h
theorem Ch.trans {l : Addr} {H H1 H2 : Hp} (a : Ch l H H1) (b : Ch l H1 H2) : Ch l H H2 := fun x o h n => b x o (a x o h n) n
theorem ch_ex {l : Addr} {H H' : Hp} (e : Ex H H') : Ch l H H' := fun b o h _ => e b o h
theorem ch_upd {l : Addr} {H : Hp} {o : HO} : Ch l H (upd H l o) := fun b u h n => by
  rw [upd_ne n]
  exact h
/-- no tuple -/
def Nt : HO → Prop
  | .tup _ => False
  | .frz _ (.tup _) => False
  | _ => True
theorem tk_ch {l : Addr} {H H' : Hp} {o : HO} (h : H l = some o) (n : Nt o) (c : Ch l H H') : TK H H' := fun a xs r => by
  rcases r with r | ⟨ob, r⟩
  · refine Or.inl (c _ _ r fun e => ?_)
    subst e
    have q := Option.some.inj (h.symm.trans r)
    subst q
    exact n
  · refine Or.inr ⟨ob, c _ _ r fun e => ?_⟩
    subst e
    have q := Option.some.inj (h.symm.trans r)
    subst q
    exact n
theorem tk_upd {l : Addr} {H : Hp} {o u : HO} (h : H l = some o) (n : Nt o) : TK H (upd H l u) := tk_ch h n ch_upd
theorem sqt_tk {K : PySem.W.Frag} {H H' : Hp} {a : Addr} {xs : List V} (t : TK H H') (h : SqT K H a xs) : SqT K H' a xs := by
  rcases h with h | h
  · exact Or.inl (t _ _ h)
  · exact Or.inr h
/-! ### data without lists -/
mutual
def nol : PyData → Bool
  | .list _ => false
  | .dict _ => false
  | .tuple xs => nolAll xs
  | _ => true
def nolAll : List PyData → Bool
  | [] => true
  | d :: ds => nol d && nolAll ds
end
section
variable {K : PySem.W.Frag} {H H' : Hp}
mutual
theorem dp_tk (t : TK H H') : ∀ (d : PyData) (v : V), nol d = true → Dp K H v d → Dp K H' v d
  | .none, _, _, h => by
    cases h
    exact .non
  | .bool b, _, _, h => by
    cases h
    exact .bl b
  | .int i, _, _, h => by
    cases h
    exact .int i
  | .str x, _, _, h => by
    cases h
    exact .str x
  | .list _, _, n, _ => by cases n
  | .dict _, _, n, _ => by cases n
  | .tuple ds, _, n, h => by
    cases h with
    | tup s all => exact .tup (sqt_tk t s) (dpa_tk t ds _ n all)
theorem dpa_tk (t : TK H H') : ∀ (ds : List PyData) (vs : List V), nolAll ds = true → DpAll K H vs ds → DpAll K H' vs ds
  | [], _, _, h => by
    cases h
    exact .nil
  | d :: ds, _, n, h => by
    cases h with
    | cons a b =>
      have n2 : (nol d && nolAll ds) = true := n
      rw [Bool.and_eq_true] at n2
      exact .cons (dp_tk t d _ n2.1 a) (dpa_tk t ds _ n2.2 b)
end
mutual
theorem dp_ex (e : Ex H H') : ∀ (d : PyData) (v : V), Dp K H v d → Dp K H' v d
  | .none, _, h => by
    cases h
    exact .non
  | .bool b, _, h => by
    cases h
    exact .bl b
  | .int i, _, h => by
    cases h
    exact .int i
  | .str x, _, h => by
    cases h
    exact .str x
  | .dict _, _, h => by cases h
  | .list ds, _, h => by
    cases h with
    | lst s all => exact .lst (ex_l e s) (dpa_ex e ds _ all)
  | .tuple ds, _, h => by
    cases h with
    | tup s all => exact .tup (ex_t e s) (dpa_ex e ds _ all)
theorem dpa_ex (e : Ex H H') : ∀ (ds : List PyData) (vs : List V), DpAll K H vs ds → DpAll K H' vs ds
  | [], _, h => by
    cases h
    exact .nil
  | d :: ds, _, h => by
    cases h with
    | cons a b => exact .cons (dp_ex e d _ a) (dpa_ex e ds _ b)
end
theorem mv {v : V} {d : PyData} (h : Dp K H v d) (e : Ex H H') : Dp K H' v d := dp_ex e d v h
theorem mva {vs : List V} {ds : List PyData} (h : DpAll K H vs ds) (e : Ex H H') : DpAll K H' vs ds := dpa_ex e ds vs h
theorem mt {v : V} {d : PyData} (h : Dp K H v d) (t : TK H H') (n : nol d = true) : Dp K H' v d := dp_tk t d v n h
theorem dp_int {v : V} {i : Int} (h : Dp K H v (.int i)) : v = .int i := by
  cases h
  rfl
theorem dp_str {v : V} {x : Str} (h : Dp K H v (.str x)) : v = .str x := by
  cases h
  rfl
theorem dp_bool {v : V} {b : Bool} (h : Dp K H v (.bool b)) : v = .bl b := by
  cases h
  rfl
theorem dp_none {v : V} (h : Dp K H v .none) : v = .non := by
  cases h
  rfl
theorem dp_tup {v : V} {ds : List PyData} (h : Dp K H v (.tuple ds)) : ∃ a xs, v = .ref a ∧ SqT K H a xs ∧ DpAll K H xs ds := by
  cases h with
  | tup s all => exact ⟨_, _, rfl, s, all⟩
theorem dp_lst {v : V} {ds : List PyData} (h : Dp K H v (.list ds)) : ∃ a xs, v = .ref a ∧ SqL K H a xs ∧ DpAll K H xs ds := by
  cases h with
  | lst s all => exact ⟨_, _, rfl, s, all⟩
theorem dpa_nil {vs : List V} (h : DpAll K H vs []) : vs = [] := by
  cases h
  rfl
theorem dpa_cons {vs : List V} {d : PyData} {ds : List PyData} (h : DpAll K H vs (d :: ds)) : ∃ x xs, vs = x :: xs ∧ Dp K H x d ∧ DpAll K H xs ds := by
  cases h with
  | cons a b => exact ⟨_, _, rfl, a, b⟩
theorem dpa1 {vs : List V} {a : PyData} (h : DpAll K H vs [a]) : ∃ x, vs = [x] ∧ Dp K H x a := by
  obtain ⟨x, xs, rfl, hx, h⟩ := dpa_cons h
  rw [dpa_nil h]
  exact ⟨x, rfl, hx⟩
theorem dpa2 {vs : List V} {a b : PyData} (h : DpAll K H vs [a, b]) : ∃ x y, vs = [x, y] ∧ Dp K H x a ∧ Dp K H y b := by
  obtain ⟨x, xs, rfl, hx, h⟩ := dpa_cons h
  obtain ⟨y, rfl, hy⟩ := dpa1 h
  exact ⟨x, y, rfl, hx, hy⟩
theorem dpa3 {vs : List V} {a b c : PyData} (h : DpAll K H vs [a, b, c]) : ∃ x y z, vs = [x, y, z] ∧ Dp K H x a ∧ Dp K H y b ∧ Dp K H z c := by
  obtain ⟨x, xs, rfl, hx, h⟩ := dpa_cons h
  obtain ⟨y, z, rfl, hy, hz⟩ := dpa2 h
  exact ⟨x, y, z, rfl, hx, hy, hz⟩
theorem dpa4 {vs : List V} {a b c d : PyData} (h : DpAll K H vs [a, b, c, d]) : ∃ x y z u, vs = [x, y, z, u] ∧ Dp K H x a ∧ Dp K H y b ∧ Dp K H z c ∧ Dp K H u d := by
  obtain ⟨x, xs, rfl, hx, h⟩ := dpa_cons h
  obtain ⟨y, z, u, rfl, hy, hz, hu⟩ := dpa3 h
  exact ⟨x, y, z, u, rfl, hx, hy, hz, hu⟩
theorem dpa_len : ∀ {vs : List V} {ds : List PyData}, DpAll K H vs ds → vs.length = ds.length
  | _, [], h => by
    rw [dpa_nil h]
    rfl
  | _, d :: ds, h => by
    obtain ⟨x, xs, rfl, _, h2⟩ := dpa_cons h
    show xs.length + 1 = ds.length + 1
    rw [dpa_len h2]
theorem dpa_get : ∀ {vs : List V} {ds : List PyData} {i : Nat} {d : PyData}, DpAll K H vs ds → ds[i]? = some d → ∃ x, vs[i]? = some x ∧ Dp K H x d
  | _, [], _, _, _, g => by simp at g
  | _, e :: ds, 0, d, h, g => by
    obtain ⟨x, xs, rfl, hx, _⟩ := dpa_cons h
    have q : e = d := Option.some.inj g
    subst q
    exact ⟨x, rfl, hx⟩
  | _, e :: ds, i + 1, d, h, g => by
    obtain ⟨x, xs, rfl, _, h2⟩ := dpa_cons h
    exact dpa_get (vs := xs) (ds := ds) (i := i) h2 g
theorem dpa_at {vs : List V} {ds : List PyData} {i : Nat} {x : V} (h : DpAll K H vs ds) (g : vs[i]? = some x) : ∃ d, ds[i]? = some d ∧ Dp K H x d := by
  have hi : i < ds.length := by
    rw [← dpa_len h]
    exact (List.getElem?_eq_some_iff.mp g).1
  obtain ⟨y, gy, hy⟩ := dpa_get h (List.getElem?_eq_getElem hi)
  have e : y = x := Option.some.inj (gy.symm.trans g)
  subst e
  exact ⟨_, List.getElem?_eq_getElem hi, hy⟩
theorem dpa_app : ∀ {xs ys : List V} {ds es : List PyData}, DpAll K H xs ds → DpAll K H ys es → DpAll K H (xs ++ ys) (ds ++ es)
  | _, _, [], _, h, k => by
    rw [dpa_nil h]
    exact k
  | _, _, d :: ds, _, h, k => by
    obtain ⟨x, xs, rfl, hx, h2⟩ := dpa_cons h
    exact .cons hx (dpa_app h2 k)
theorem dpa_ints : ∀ ns : List Int, DpAll K H (ns.map V.int) (ns.map PyData.int)
  | [] => .nil
  | n :: ns => .cons (.int n) (dpa_ints ns)
theorem dpa_intsE : ∀ {ns : List Int} {vs : List V}, DpAll K H vs (ns.map PyData.int) → vs = ns.map V.int
  | [], _, h => dpa_nil h
  | n :: ns, _, h => by
    obtain ⟨x, xs, rfl, hx, h2⟩ := dpa_cons h
    rw [dp_int hx, dpa_intsE h2]
    rfl
theorem dp_lints {p : Addr} {ns : List Int} (h : H p = some (.lst (ns.map V.int))) : Dp K H (.ref p) (.list (ns.map PyData.int)) := .lst (SqL.of h) (dpa_ints ns)
theorem dp_tints {p : Addr} {ns : List Int} (h : H p = some (.tup (ns.map V.int))) : Dp K H (.ref p) (eInts ns) := .tup (SqT.of h) (dpa_ints ns)
end
theorem nol_ints : ∀ ns : List Int, nolAll (ns.map PyData.int) = true
  | [] => rfl
  | _ :: ns => nol_ints ns
theorem nol_eInts (ns : List Int) : nol (eInts ns) = true := nol_ints ns
theorem nol_map {α : Type} {f : α → PyData} (h : ∀ a, nol (f a) = true) : ∀ l : List α, nolAll (l.map f) = true
  | [] => rfl
  | a :: l => by
    show (nol (f a) && nolAll (l.map f)) = true
    rw [h a, nol_map h l]
    rfl
theorem nol_eDeed : ∀ d : Deed, nol (eDeed d) = true
  | .say _ => rfl
  | .send _ => rfl
  | .add _ => rfl
theorem nol_eDeeds (ds : List Deed) : nol (eDeeds ds) = true := nol_map nol_eDeed ds
theorem nol_eGuard : ∀ g : Guard, nol (eGuard g) = true
  | .yes => rfl
  | .under _ => rfl
theorem nol_eRoom (r : Room) : nol (eRoom r) = true := by
  show (true && (true && (true && (true && (true && (nol (eDeeds r.ins) && (nol (eDeeds r.outs) && true))))))) = true
  rw [nol_eDeeds, nol_eDeeds]
  rfl
theorem nol_eRooms (R : List Room) : nol (eRooms R) = true := nol_map nol_eRoom R
theorem nol_eGoal (d : Door) : nol (eGoal d) = true := by
  unfold eGoal
  cases d.way <;> rfl
theorem nol_eDoor (d : Door) : nol (eDoor d) = true := by
  show (true && (true && (nol (eGuard d.guard) && (nol (eDeeds d.deeds) && (true && (nol (eGoal d) && true)))))) = true
  rw [nol_eGuard, nol_eDeeds, nol_eGoal]
  rfl
theorem nol_eDoors (D : List Door) : nol (eDoors D) = true := nol_map nol_eDoor D
theorem nol_eChart {c : Chart} (h : nol c.names = true) : nol (eChart c) = true := by
  show (true && (true && (true && (nol eBoxes && (nol c.names && (nol (eRooms c.rooms) && (nol (eDoors c.doors) && true))))))) = true
  rw [h, nol_eRooms, nol_eDoors]
  rfl
theorem nol_eKept (k : List (List Int)) : nol (eKept k) = true := nol_map nol_eInts k
theorem nol_eStand (S : Stand) : nol (eStand S) = true := by
  show (nol (eInts S.opening) && (nol (eBox S.box) && (nol (eKept S.kept) && true))) = true
  rw [nol_eInts, nol_eKept]
  rfl
theorem nol_eEnt : ∀ e : Ent, nol (eEnt e) = true
  | .num _ _ => rfl
  | .say _ => rfl
  | .put _ => rfl
/-! ### what a reading gives, as data -/
def EvD (K : PySem.W.Frag) (te : TE) (σ : L2.St) (H : Hp) (d : PyData) : Prop :=
  ∀ H1, Ex H H1 → ∀ Q : VK, (∀ v H2, Ex H1 H2 → Dp K H2 v d → Q v H2) → te σ H1 Q
def EvAD (K : PySem.W.Frag) (ta : TA) (σ : L2.St) (H : Hp) (ds : List PyData) : Prop :=
  ∀ H1, Ex H H1 → ∀ Q : List V → Hp → Prop, (∀ vs H2, Ex H1 H2 → DpAll K H2 vs ds → Q vs H2) → ta σ H1 Q
/-- what a promise hands back: data; a new list of ints -/
def RetD (K : PySem.W.Frag) (d : PyData) (H : Hp) (Q : VK) : Prop := ∀ v H', Ex H H' → Dp K H' v d → Q v H'
def AtD (ds : List PyData) (i : Int) (d : PyData) : Prop := 0 ≤ i ∧ ds[i.toNat]? = some d
section
variable {K : PySem.W.Frag} {σ : L2.St} {H H' : Hp} {ta tb te : TE} {t : TT} {v : V} {d : PyData} {ds : List PyData}
theorem EvD.mono (e : Ex H H') (h : EvD K te σ H d) : EvD K te σ H' d := fun H1 a Q q => h H1 (e.trans a) Q q
theorem evd_of (h : Ev te σ H v) (hd : Dp K H v d) : EvD K te σ H d := fun H1 e Q q => h H1 e Q fun H2 e2 => q v H2 e2 (mv hd (e.trans e2))
theorem evd_ofL {ns : List Int} (h : EvL te σ H (ns.map V.int)) : EvD K te σ H (.list (ns.map PyData.int)) := fun H1 e Q q => h H1 e Q fun p H2 _ e2 hp => q (.ref p) H2 e2 (dp_lints hp)
theorem evd_var {i : Nat} (h : σ[i]? = some (some v)) (hd : Dp K H v d) : EvD K (tVar i) σ H d := evd_of (ev_var h) hd
theorem evd_int {te : TE} {i : Int} (h : Ev te σ H (.int i)) : EvD K te σ H (.int i) := evd_of h (.int i)
theorem evd_str {te : TE} {x : Str} (h : Ev te σ H (.str x)) : EvD K te σ H (.str x) := evd_of h (.str x)
theorem evd_non {te : TE} (h : Ev te σ H .non) : EvD K te σ H .none := evd_of h .non
theorem evd_bl {te : TE} {b : Bool} (h : Ev te σ H (.bl b)) : EvD K te σ H (.bool b) := evd_of h (.bl b)
theorem ev_int {i : Int} (h : EvD K te σ H (.int i)) : Ev te σ H (.int i) := fun H1 e Q q => h H1 e Q fun v H2 e2 hd => by
  rw [dp_int hd]
  exact q H2 e2
theorem ev_str {x : Str} (h : EvD K te σ H (.str x)) : Ev te σ H (.str x) := fun H1 e Q q => h H1 e Q fun v H2 e2 hd => by
  rw [dp_str hd]
  exact q H2 e2
theorem ev_bl {b : Bool} (h : EvD K te σ H (.bool b)) : Ev te σ H (.bl b) := fun H1 e Q q => h H1 e Q fun v H2 e2 hd => by
  rw [dp_bool hd]
  exact q H2 e2
theorem ev_non (h : EvD K te σ H .none) : Ev te σ H .non := fun H1 e Q q => h H1 e Q fun v H2 e2 hd => by
  rw [dp_none hd]
  exact q H2 e2
theorem atI_of {xs : List V} {i : Int} (h0 : 0 ≤ i) (h : xs[i.toNat]? = some v) : atI xs i = some v := at_of (j := i.toNat) (by omega) h
theorem evd_ix {i : Int} (h : EvD K ta σ H (.tuple ds)) (hi : Ev tb σ H (.int i)) (hd : AtD ds i d) : EvD K (tOp (rIxT K) ta tb) σ H d := fun H1 e Q q =>
  h H1 e _ fun u H2 e2 hu => hi H2 (e.trans e2) _ fun H3 e3 => by
    obtain ⟨a, xs, rfl, s, all⟩ := dp_tup (mv hu e3)
    obtain ⟨x, gx, hx⟩ := dpa_get all hd.2
    exact ⟨a, xs, i, x, rfl, rfl, s, atI_of hd.1 gx, q x H3 (e2.trans e3) hx⟩
theorem evd_ixl {i : Int} (h : EvD K ta σ H (.list ds)) (hi : Ev tb σ H (.int i)) (hd : AtD ds i d) : EvD K (tOp (rIxL K) ta tb) σ H d := fun H1 e Q q =>
  h H1 e _ fun u H2 e2 hu => hi H2 (e.trans e2) _ fun H3 e3 => by
    obtain ⟨a, xs, rfl, s, all⟩ := dp_lst (mv hu e3)
    obtain ⟨x, gx, hx⟩ := dpa_get all hd.2
    exact ⟨a, xs, i, x, rfl, rfl, s, atI_of hd.1 gx, q x H3 (e2.trans e3) hx⟩
theorem ead_nil : EvAD K tNil σ H [] := fun H1 e Q q => q [] H1 (Ex.refl H1) .nil
theorem ead_cons {tr : TA} (h : EvD K te σ H d) (hr : EvAD K tr σ H ds) : EvAD K (tCons te tr) σ H (d :: ds) := fun H1 e Q q =>
  h H1 e _ fun u H2 e2 hu => hr H2 (e.trans e2) _ fun vs H3 e3 hs => q (u :: vs) H3 (e2.trans e3) (.cons (mv hu e3) hs)
theorem evd_tup {ta : TA} (h : EvAD K ta σ H ds) (hl : ds.length ≤ 100000) : EvD K (tTup ta) σ H (.tuple ds) := fun H1 e Q q =>
  h H1 e _ fun vs H2 e2 hs => ⟨sz_of (by rw [dpa_len hs]; exact hl), fun p hp => q (.ref p) _ (e2.trans (Ex.new hp)) (.tup (SqT.of upd_same) (mva hs (Ex.new hp)))⟩
theorem evd_is {d' : PyData} (h : EvD K te σ H d) (e : d = d') : EvD K te σ H d' := by
  rw [← e]
  exact h
/-- len -/
theorem ev_lenT {ta : TE} (h : EvD K ta σ H (.tuple ds)) : Ev (tCB (rLenS K) (tCons ta tNil)) σ H (.int (ds.length : Int)) := fun H1 e Q q =>
  h H1 e _ fun u H2 e2 hu => by
    obtain ⟨a, xs, rfl, s, all⟩ := dp_tup hu
    refine ⟨a, xs, rfl, .inr s, ?_⟩
    rw [dpa_len all]
    exact q H2 e2
theorem ev_lenL {ta : TE} (h : EvD K ta σ H (.list ds)) : Ev (tCB (rLenS K) (tCons ta tNil)) σ H (.int (ds.length : Int)) := fun H1 e Q q =>
  h H1 e _ fun u H2 e2 hu => by
    obtain ⟨a, xs, rfl, s, all⟩ := dp_lst hu
    refine ⟨a, xs, rfl, .inl s, ?_⟩
    rw [dpa_len all]
    exact q H2 e2
/-- r in ns -/
theorem inV_ints (r : Int) (ns : List Int) : inV (.int r) (ns.map V.int) = decide (r ∈ ns) := by
  unfold inV
  induction ns with
  | nil => rfl
  | cons n ns ih =>
    rw [List.map_cons, List.any_cons, ih]
    have e : eqV (.int n) (.int r) = decide (r = n) := by
      show decide (n = r) = decide (r = n)
      exact decide_eq_decide.mpr ⟨Eq.symm, Eq.symm⟩
    rw [e]
    by_cases h1 : r = n
    · subst h1
      simp
    · simp [h1]
theorem flat_ints : ∀ ns : List Int, (ns.map V.int).all flatV = true
  | [] => rfl
  | _ :: ns => flat_ints ns
theorem ev_inT {r : Int} {ns : List Int} (h : Ev ta σ H (.int r)) (hs : EvD K tb σ H (eInts ns)) : Ev (tOp (rIn K false) ta tb) σ H (.bl (decide (r ∈ ns))) := fun H1 e Q q =>
  h H1 e _ fun H2 e2 => hs H2 (e.trans e2) _ fun u H3 e3 hu => by
    obtain ⟨a, xs, rfl, s, all⟩ := dp_tup hu
    rw [dpa_intsE all] at s
    refine ⟨a, ns.map V.int, rfl, .inr s, rfl, flat_ints ns, ?_⟩
    show Q (.bl (inV (.int r) (ns.map V.int))) H3
    rw [inV_ints]
    exact q H3 (e2.trans e3)
theorem ev_niT {r : Int} {ns : List Int} (h : Ev ta σ H (.int r)) (hs : EvD K tb σ H (eInts ns)) : Ev (tOp (rIn K true) ta tb) σ H (.bl (!decide (r ∈ ns))) := fun H1 e Q q =>
  h H1 e _ fun H2 e2 => hs H2 (e.trans e2) _ fun u H3 e3 hu => by
    obtain ⟨a, xs, rfl, s, all⟩ := dp_tup hu
    rw [dpa_intsE all] at s
    refine ⟨a, ns.map V.int, rfl, .inr s, rfl, flat_ints ns, ?_⟩
    show Q (.bl (!inV (.int r) (ns.map V.int))) H3
    rw [inV_ints]
    exact q H3 (e2.trans e3)
theorem ev_inL {r : Int} {ns : List Int} (h : Ev ta σ H (.int r)) (hs : EvD K tb σ H (.list (ns.map PyData.int))) : Ev (tOp (rIn K false) ta tb) σ H (.bl (decide (r ∈ ns))) := fun H1 e Q q =>
  h H1 e _ fun H2 e2 => hs H2 (e.trans e2) _ fun u H3 e3 hu => by
    obtain ⟨a, xs, rfl, s, all⟩ := dp_lst hu
    rw [dpa_intsE all] at s
    refine ⟨a, ns.map V.int, rfl, .inl s, rfl, flat_ints ns, ?_⟩
    show Q (.bl (inV (.int r) (ns.map V.int))) H3
    rw [inV_ints]
    exact q H3 (e2.trans e3)
theorem ev_niL {r : Int} {ns : List Int} (h : Ev ta σ H (.int r)) (hs : EvD K tb σ H (.list (ns.map PyData.int))) : Ev (tOp (rIn K true) ta tb) σ H (.bl (!decide (r ∈ ns))) := fun H1 e Q q =>
  h H1 e _ fun H2 e2 => hs H2 (e.trans e2) _ fun u H3 e3 hu => by
    obtain ⟨a, xs, rfl, s, all⟩ := dp_lst hu
    rw [dpa_intsE all] at s
    refine ⟨a, ns.map V.int, rfl, .inl s, rfl, flat_ints ns, ?_⟩
    show Q (.bl (!inV (.int r) (ns.map V.int))) H3
    rw [inV_ints]
    exact q H3 (e2.trans e3)
theorem beqd {α : Type} [BEq α] [LawfulBEq α] [DecidableEq α] (x y : α) : (x == y) = decide (x = y) := by
  by_cases h : x = y
  · subst h
    simp
  · simp [h]
/-- == of two texts, of two ints -/
theorem ev_eqS {x y : Str} (h : Ev ta σ H (.str x)) (k : Ev tb σ H (.str y)) : Ev (tOp rEq ta tb) σ H (.bl (decide (x = y))) := ev_is (ev_op h k (rv_eq rfl)) (by rw [dec_str]; exact congrArg V.bl (beqd ..))
theorem ev_neS {x y : Str} (h : Ev ta σ H (.str x)) (k : Ev tb σ H (.str y)) : Ev (tOp rNe ta tb) σ H (.bl (!decide (x = y))) := ev_is (ev_op h k (rv_ne rfl)) (by rw [dec_str]; exact congrArg (fun b => V.bl !b) (beqd ..))
theorem ev_eqI {x y : Int} (h : Ev ta σ H (.int x)) (k : Ev tb σ H (.int y)) : Ev (tOp rEq ta tb) σ H (.bl (decide (x = y))) := ev_is (ev_op h k (rv_eq rfl)) (by rw [dec_int]; exact congrArg V.bl (beqd ..))
theorem ev_neI {x y : Int} (h : Ev ta σ H (.int x)) (k : Ev tb σ H (.int y)) : Ev (tOp rNe ta tb) σ H (.bl (!decide (x = y))) := ev_is (ev_op h k (rv_ne rfl)) (by rw [dec_int]; exact congrArg (fun b => V.bl !b) (beqd ..))
theorem ev_eqO {x : Int} {o : PyData} (h : Ev ta σ H (.int x)) (k : Ev tb σ H .non) : Ev (tOp rEq ta tb) σ H (.bl false) := ev_is (ev_op h k (rv_eq rfl)) (by rfl)
def optV : Option Int → V
  | none => .non
  | some i => .int i
def optD : Option Int → PyData
  | none => .none
  | some i => .int i
theorem dp_opt {v : V} {o : Option Int} (h : Dp K H v (optD o)) : v = optV o := by
  cases o with
  | none => exact dp_none h
  | some i => exact dp_int h
theorem opt_dp (o : Option Int) : Dp K H (optV o) (optD o) := by
  cases o with
  | none => exact .non
  | some i => exact .int i
theorem ev_opt {o : Option Int} (h : EvD K te σ H (optD o)) : Ev te σ H (optV o) := fun H1 e Q q => h H1 e Q fun v H2 e2 hd => by
  rw [dp_opt hd]
  exact q H2 e2
/-- is None, is not None -/
theorem ev_isN {o : Option Int} (h : Ev ta σ H (optV o)) : Ev (tOp (fun x y H Q => y = .non ∧ Q (.bl (decide (x = .non))) H) ta (tC .non)) σ H (.bl o.isNone) := fun H1 e Q q =>
  h H1 e _ fun H2 e2 => ⟨rfl, by
    have c : decide (optV o = .non) = o.isNone := by cases o <;> rfl
    rw [c]
    exact q H2 e2⟩
theorem ev_notN {o : Option Int} (h : Ev ta σ H (optV o)) : Ev (tOp (fun x y H Q => y = .non ∧ Q (.bl (!decide (x = .non))) H) ta (tC .non)) σ H (.bl o.isSome) := fun H1 e Q q =>
  h H1 e _ fun H2 e2 => ⟨rfl, by
    have c : (!decide (optV o = .non)) = o.isSome := by cases o <;> rfl
    rw [c]
    exact q H2 e2⟩
end
/-! ### promises -/
def spD {α : Type} (K : PySem.W.Frag) (ds : α → List PyData) (C : α → Prop) (res : α → PyData) : Sp := fun vs H Q _ => ∃ x : α, DpAll K H vs (ds x) ∧ C x ∧ RetD K (res x) H Q
def spL {α : Type} (K : PySem.W.Frag) (ds : α → List PyData) (C : α → Prop) (res : α → List Int) : Sp := fun vs H Q _ => ∃ x : α, DpAll K H vs (ds x) ∧ C x ∧ RetL ((res x).map V.int) H Q
/-- some answer of which B holds -/
def spX {α : Type} (K : PySem.W.Frag) (ds : α → List PyData) (C : α → Prop) (B : α → PyData → Prop) : Sp := fun vs H Q _ => ∃ x : α, DpAll K H vs (ds x) ∧ C x ∧ ∀ d, B x d → RetD K d H Q
section
variable {K : PySem.W.Frag} {σ : L2.St} {H H' : Hp} {te : TE} {ta : TA} {α : Type} {ds : α → List PyData} {C : α → Prop} {res : α → PyData} {resL : α → List Int} {B : α → PyData → Prop} {E : XK}
theorem evd_call (x : α) (h : EvAD K ta σ H (ds x)) (c : C x) : EvD K (tCall (spD K ds C res) [] E ta) σ H (res x) := fun H1 e Q q =>
  h H1 e _ fun vs H2 e2 hs => by
    show spD K ds C res (vs ++ []) H2 Q E
    rw [List.append_nil]
    exact ⟨x, hs, c, fun v H3 e3 hd => q v H3 (e2.trans e3) hd⟩
theorem evl_call (x : α) (h : EvAD K ta σ H (ds x)) (c : C x) : EvL (tCall (spL K ds C resL) [] E ta) σ H ((resL x).map V.int) := fun H1 e Q q =>
  h H1 e _ fun vs H2 e2 hs => by
    show spL K ds C resL (vs ++ []) H2 Q E
    rw [List.append_nil]
    exact ⟨x, hs, c, fun p H3 np e3 hp => q p H3 (fresh_back e2 np) (e2.trans e3) hp⟩
end
/-! ### statements -/
section
variable {K : PySem.W.Frag} {σ : L2.St} {H H' : Hp} {te tl : TE} {d : PyData} {ds : List PyData} {D : Ends} {tu tz : TS} {i j : Nat}
theorem q_asgD (h : EvD K te σ H d) (k : ∀ v H1, Ex H H1 → Dp K H1 v d → tz D (σ.set i (some v)) H1) : tSeq (tAsg te (gName i)) tz D σ H := h H (Ex.refl H) _ fun v H1 e hd => k v H1 e hd
theorem s_asgD (h : EvD K te σ H d) (k : ∀ v H1, Ex H H1 → Dp K H1 v d → D.nx (σ.set i (some v)) H1) : tAsg te (gName i) D σ H := h H (Ex.refl H) _ fun v H1 e hd => k v H1 e hd
theorem s_retD (h : EvD K te σ H d) (k : RetD K d H D.rt) : tRet te D σ H := h H (Ex.refl H) _ fun v H1 e hd => k v H1 e hd
/-- an if without else whose test is false -/
theorem q_skip0 {t : TT} {b : Bool} (h : EvT t σ H b) (e : b = false) (k : ∀ H1, Ex H H1 → tz D σ H1) : tSeq (tIfS t tu tNext) tz D σ H := q_when h (fun z => by rw [e] at z; cases z) fun _ H1 e1 => k H1 e1
/-- for x in a tuple of data without lists -/
theorem q_forD (h : EvD K tl σ H (.tuple ds)) (n : nolAll ds = true)
    (k : ∀ H1, Ex H H1 → ∃ Pv : Nat → L2.St → Hp → Prop, Pv 0 σ H1 ∧ (∀ i σ' H', Pv i σ' H' → TK H1 H') ∧
      (∀ i d x σ' H', ds[i]? = some d → Dp K H' x d → Pv i σ' H' → tu { D with nx := Pv (i + 1), ct := Pv (i + 1), bk := tz D } (σ'.set j (some x)) H') ∧ ∀ σ' H', Pv ds.length σ' H' → tz D σ' H') :
    tSeq (tFor (iTup K tl) (gName j) tu) tz D σ H := h H (Ex.refl H) _ fun v H1 e hd => by
  obtain ⟨a, xs, rfl, s, all⟩ := dp_tup hd
  obtain ⟨Pv, h0, hk, hs, hz⟩ := k H1 e
  refine ⟨a, rfl, ⟨xs, s⟩, for_tup (K := K) (a := a) (xs := xs) Pv h0 (fun i σ H _ p => sqt_tk (hk i σ H p) s) (fun i x σ' H' g p => ?_) fun σ' H' p => ?_⟩
  · obtain ⟨d, gd, hx⟩ := dpa_at all g
    have ht := hk i σ' H' p
    obtain ⟨y, gy, hy⟩ := dpa_get (dpa_tk ht ds xs n all) gd
    have e : y = x := Option.some.inj (gy.symm.trans g)
    subst e
    exact hs i d y σ' H' gd hy p
  · rw [dpa_len all] at p
    exact hz σ' H' p
/-- for x in a list of data, which stands -/
theorem q_forLD (h : EvD K tl σ H (.list ds))
    (k : ∀ H1, Ex H H1 → ∃ Pv : Nat → L2.St → Hp → Prop, Pv 0 σ H1 ∧ (∀ i σ' H', Pv i σ' H' → Ex H1 H') ∧
      (∀ i d x σ' H', ds[i]? = some d → Dp K H' x d → Pv i σ' H' → tu { D with nx := Pv (i + 1), ct := Pv (i + 1), bk := tz D } (σ'.set j (some x)) H') ∧ ∀ σ' H', Pv ds.length σ' H' → tz D σ' H') :
    tSeq (tFor (iList K tl) (gName j) tu) tz D σ H := h H (Ex.refl H) _ fun v H1 e hd => by
  obtain ⟨a, xs, rfl, s, all⟩ := dp_lst hd
  obtain ⟨Pv, h0, hk, hs, hz⟩ := k H1 e
  refine ⟨a, rfl, ⟨xs, s⟩, for_list (K := K) (a := a) (xs := xs) Pv h0 (fun i σ H _ p => ex_l (hk i σ H p) s) (fun i x σ' H' g p => ?_) fun σ' H' p => ?_⟩
  · obtain ⟨d, gd, hx⟩ := dpa_at all g
    exact hs i d x σ' H' gd (mv hx (hk i σ' H' p)) p
  · rw [dpa_len all] at p
    exact hz σ' H' p
end
/-! ### lists that grow -/
section
variable {K : PySem.W.Frag} {σ : L2.St} {H H' : Hp} {ta te tl : TE} {d : PyData} {ds : List PyData} {D : Ends} {tu tz : TS} {i j : Nat}
theorem s_appD {l : Addr} {xs : List V} (hl : H l = some (.lst xs)) (ha : Ev ta σ H (.ref l)) (h : EvD K te σ H d) (hz : xs.length < 100000) (k : ∀ v H1, Ex H H1 → Dp K H1 v d → D.nx σ (upd H1 l (.lst (xs ++ [v])))) :
    tDrop (tBM K "list" rAppend ta (tCons te tNil)) D σ H := ha H (Ex.refl H) _ fun H1 e1 => ⟨.inl ⟨rfl, _, SqL.of (e1 _ _ hl)⟩, h H1 e1 _ fun v H2 e2 hd => ⟨l, xs, v, rfl, rfl, e2 _ _ (e1 _ _ hl), sz_lt hz, k v H2 (e1.trans e2) hd⟩⟩
theorem q_appD {l : Addr} {xs : List V} (hl : H l = some (.lst xs)) (ha : Ev ta σ H (.ref l)) (h : EvD K te σ H d) (hz : xs.length < 100000) (k : ∀ v H1, Ex H H1 → Dp K H1 v d → tz D σ (upd H1 l (.lst (xs ++ [v])))) :
    tSeq (tDrop (tBM K "list" rAppend ta (tCons te tNil))) tz D σ H := s_appD (D := { D with nx := tz D }) hl ha h hz k
theorem s_extL {l : Addr} {xs ys : List V} (hl : H l = some (.lst xs)) (ha : Ev ta σ H (.ref l)) (h : EvL te σ H ys) (hz : xs.length + ys.length ≤ 100000) (k : ∀ H1, Ex H H1 → D.nx σ (upd H1 l (.lst (xs ++ ys)))) :
    tDrop (tBM K "list" rExtend ta (tCons te tNil)) D σ H := ha H (Ex.refl H) _ fun H1 e1 => ⟨.inl ⟨rfl, _, SqL.of (e1 _ _ hl)⟩, h H1 e1 _ fun p H2 np e2 hp => ⟨l, p, xs, ys, rfl, rfl, e2 _ _ (e1 _ _ hl), hp, sz_of hz, k H2 (e1.trans e2)⟩⟩
/-- for x in reversed(a tuple of data without lists) -/
theorem q_forRev (h : EvD K tl σ H (.tuple ds)) (n : nolAll ds = true)
    (k : ∀ H1, Ex H H1 → ∃ Pv : Nat → L2.St → Hp → Prop, Pv 0 σ H1 ∧ (∀ i σ' H', Pv i σ' H' → TK H1 H') ∧
      (∀ i d x σ' H', ds.reverse[i]? = some d → Dp K H' x d → Pv i σ' H' → tu { D with nx := Pv (i + 1), ct := Pv (i + 1), bk := tz D } (σ'.set j (some x)) H') ∧ ∀ σ' H', Pv ds.length σ' H' → tz D σ' H') :
    tSeq (tFor (RT.iRevA K tl) (gName j) tu) tz D σ H := h H (Ex.refl H) _ fun v H1 e hd => by
  obtain ⟨a, xs, rfl, s, all⟩ := dp_tup hd
  obtain ⟨Pv, h0, hk, hs, hz⟩ := k H1 e
  refine ⟨a, xs, rfl, .inr ⟨s, RT.for_ItvT (K := K) (a := a) (xs := xs) Pv h0 (fun i σ H p => sqt_tk (hk i σ H p) s) (fun i x σ' H' hi g p => ?_) fun σ' H' p => ?_⟩⟩
  · obtain ⟨d, gd, hx⟩ := dpa_at (dpa_tk (hk i σ' H' p) ds xs n all) g
    refine hs i d x σ' H' ?_ hx p
    have hl := dpa_len all
    rw [List.getElem?_reverse (by omega), ← hl]
    exact gd
  · rw [dpa_len all] at p
    exact hz σ' H' p
theorem el_cat {ta tb : TE} {xs ys : List V} (h1 : EvL ta σ H xs) (h2 : EvL tb σ H ys) (hz : xs.length + ys.length ≤ 100000) : EvL (tOp rCat ta tb) σ H (xs ++ ys) := fun H1 e Q q =>
  h1 H1 e _ fun p H2 np e2 hp => h2 H2 (e.trans e2) _ fun p2 H3 np2 e3 hp2 => ⟨p, p2, _, _, rfl, rfl, e3 _ _ hp, hp2, sz_of hz, fun p3 np3 => q p3 _ (fresh_back (e2.trans e3) np3) ((e2.trans e3).trans (Ex.new np3)) upd_same⟩
/-- tuple(a list), the list just made or any -/
theorem evd_tupL {ta : TE} (h : EvD K ta σ H (.list ds)) : EvD K (tCB (fun xs H Q => ∃ p ys, xs = [.ref p] ∧ ((SqL K H p ys ∧ ∀ l, H l = none → Q (.ref l) (upd H l (.tup ys))) ∨ (SqT K H p ys ∧ Q (.ref p) H))) (tCons ta tNil)) σ H (.tuple ds) := fun H1 e Q q =>
  h H1 e _ fun v H2 e2 hd => by
    obtain ⟨a, xs, rfl, s, all⟩ := dp_lst hd
    exact ⟨a, xs, rfl, .inl ⟨s, fun l nl => q (.ref l) _ (e2.trans (Ex.new nl)) (.tup (SqT.of upd_same) (mva all (Ex.new nl)))⟩⟩
end
/-! ### comprehensions over ints -/
section
variable {K : PySem.W.Frag} {σ : L2.St} {H H' : Hp} {te tl : TE} {t : TT} {j : Nat} {vs : List Nat}
def Cwi (H : Hp) (f : Int → Bool) (g : Int → V) (ns : List Int) (Dl : Addr) (i : Nat) (H' : Hp) : Prop := H Dl = none ∧ Ex H H' ∧ H' Dl = some (.lst (((ns.take i).filter f).map g))
theorem cwi_turn {f : Int → Bool} {g : Int → V} {ns : List Int} {Dl : Addr} {i : Nat} {r : Int} {σ2 : L2.St} (p : Cwi H f g ns Dl i H') (hz : ns.length ≤ 40000) (hr : ns[i]? = some r) (ht : EvT t σ2 H (f r)) (he : f r = true → Ev te σ2 H (g r)) :
    t σ2 H' fun b H3 => if b = true then te σ2 H3 fun y H4 => ∃ acc, H4 Dl = some (.lst acc) ∧ acc.length < sizeLine ∧ Cwi H f g ns Dl (i + 1) (upd H4 Dl (.lst (acc ++ [y]))) else Cwi H f g ns Dl (i + 1) H3 := by
  obtain ⟨nD, e, hD⟩ := p
  refine ht H' e _ fun H3 e3 => ?_
  have et : ns.take (i + 1) = ns.take i ++ [r] := by rw [List.take_add_one, hr]; rfl
  cases c : f r with
  | false =>
    show Cwi H f g ns Dl (i + 1) H3
    refine ⟨nD, e.trans e3, ?_⟩
    rw [et, List.filter_append, List.filter_cons_of_neg (by rw [c]; exact Bool.false_ne_true), List.filter_nil, List.append_nil]
    exact e3 _ _ hD
  | true =>
    show te σ2 H3 _
    refine he c H3 (e.trans e3) _ fun H4 e4 => ⟨_, e4 _ _ (e3 _ _ hD), ?_, nD, ((e.trans e3).trans e4).mut nD, ?_⟩
    · refine sz_lt ?_
      rw [List.length_map]
      have q := List.length_filter_le f (ns.take i)
      have q2 : (ns.take i).length ≤ ns.length := by rw [List.length_take]; exact Nat.min_le_right _ _
      omega
    · rw [upd_same, et, List.filter_append, List.filter_cons_of_pos c, List.filter_nil, List.map_append]
      rfl
/-- [.. for r in (a tuple of ints) if ..] -/
theorem el_lcT {ns : List Int} (f : Int → Bool) (g : Int → V) (h : EvD K tl σ H (eInts ns)) (hz : ns.length ≤ 40000) (hw : ∀ x, wipe ((wipe σ vs).set j (some x)) vs = wipe σ vs)
    (ht : ∀ r H1, Ex H H1 → r ∈ ns → EvT t ((wipe σ vs).set j (some (.int r))) H1 (f r)) (he : ∀ r H1, Ex H H1 → r ∈ ns → f r = true → Ev te ((wipe σ vs).set j (some (.int r))) H1 (g r)) :
    EvL (tLc (iTup K tl) (gName j) t te vs) σ H ((ns.filter f).map g) := fun H1 e Q q => h H1 e _ fun v H2 e2 hd => by
  obtain ⟨a, xs, rfl, s, all⟩ := dp_tup hd
  have ex := dpa_intsE all
  subst ex
  refine ⟨a, rfl, ⟨_, s⟩, fun Dl nD => lc_tup (K := K) (a := a) (xs := ns.map V.int) (fun i H' => Cwi H2 f g ns Dl i H') ⟨nD, Ex.new nD, ?_⟩ (fun i H' _ p => ex_t p.2.1 s) (fun i x H' gx p => ?_) fun H' p => ?_⟩
  · rw [upd_same, List.take_zero]
    rfl
  · rw [List.getElem?_map] at gx
    cases c : ns[i]? with
    | none =>
      rw [c] at gx
      cases gx
    | some r =>
      rw [c] at gx
      have ex : x = .int r := (Option.some.inj gx).symm
      subst ex
      have hm : r ∈ ns := List.mem_of_getElem? c
      exact ⟨hw _, cwi_turn p hz c (ht r H2 (e.trans e2) hm) fun hf => he r H2 (e.trans e2) hm hf⟩
  · obtain ⟨n1, e3, hD⟩ := p
    refine q Dl H' (fresh_back e2 n1) (e2.trans e3) ?_
    rw [hD, List.length_map, List.take_length]
/-- .. in a list of ints -/
theorem el_lcLI {ns : List Int} (f : Int → Bool) (g : Int → V) (h : EvD K tl σ H (.list (ns.map PyData.int))) (hz : ns.length ≤ 40000) (hw : ∀ x, wipe ((wipe σ vs).set j (some x)) vs = wipe σ vs)
    (ht : ∀ r H1, Ex H H1 → r ∈ ns → EvT t ((wipe σ vs).set j (some (.int r))) H1 (f r)) (he : ∀ r H1, Ex H H1 → r ∈ ns → f r = true → Ev te ((wipe σ vs).set j (some (.int r))) H1 (g r)) :
    EvL (tLc (iList K tl) (gName j) t te vs) σ H ((ns.filter f).map g) := fun H1 e Q q => h H1 e _ fun v H2 e2 hd => by
  obtain ⟨a, xs, rfl, s, all⟩ := dp_lst hd
  have ex := dpa_intsE all
  subst ex
  refine ⟨a, rfl, ⟨_, s⟩, fun Dl nD => lc_list (K := K) (a := a) (xs := ns.map V.int) (fun i H' => Cwi H2 f g ns Dl i H') ⟨nD, Ex.new nD, ?_⟩ (fun i H' _ p => ex_l p.2.1 s) (fun i x H' gx p => ?_) fun H' p => ?_⟩
  · rw [upd_same, List.take_zero]
    rfl
  · rw [List.getElem?_map] at gx
    cases c : ns[i]? with
    | none =>
      rw [c] at gx
      cases gx
    | some r =>
      rw [c] at gx
      have ex : x = .int r := (Option.some.inj gx).symm
      subst ex
      have hm : r ∈ ns := List.mem_of_getElem? c
      exact ⟨hw _, cwi_turn p hz c (ht r H2 (e.trans e2) hm) fun hf => he r H2 (e.trans e2) hm hf⟩
  · obtain ⟨n1, e3, hD⟩ := p
    refine q Dl H' (fresh_back e2 n1) (e2.trans e3) ?_
    rw [hD, List.length_map, List.take_length]
theorem et_yes : EvT tYes σ H true := fun H1 _ _ q => q H1 (Ex.refl H1)
end
/-! ### where things stand in what is built -/
theorem at_room {R : List Room} {i : Int} (h0 : 0 ≤ i) (h1 : i < R.length) : AtD (R.map eRoom) i (eRoom (roomAt R i)) := by
  refine ⟨h0, ?_⟩
  have h2 : i.toNat < R.length := by omega
  rw [List.getElem?_map, List.getElem?_eq_getElem h2]
  unfold roomAt
  rw [List.getD_eq_getElem?_getD, List.getElem?_eq_getElem h2]
  rfl
theorem at_door {D : List Door} {i : Int} (h0 : 0 ≤ i) (h1 : i < D.length) : AtD (D.map eDoor) i (eDoor (doorAt D i)) := by
  refine ⟨h0, ?_⟩
  have h2 : i.toNat < D.length := by omega
  rw [List.getElem?_map, List.getElem?_eq_getElem h2]
  unfold doorAt
  rw [List.getD_eq_getElem?_getD, List.getElem?_eq_getElem h2]
  rfl
theorem at_row {k : List (List Int)} {i : Int} (h0 : 0 ≤ i) (h1 : i < k.length) : AtD (k.map eInts) i (eInts (rowAt k i)) := by
  refine ⟨h0, ?_⟩
  have h2 : i.toNat < k.length := by omega
  rw [List.getElem?_map, List.getElem?_eq_getElem h2]
  unfold rowAt
  rw [List.getD_eq_getElem?_getD, List.getElem?_eq_getElem h2]
  rfl
section
variable {K : PySem.W.Frag} {σ : L2.St} {H : Hp} {ta tb : TE} {R : List Room} {i : Int}
/-- rooms[i][2], [1], [3] -/
theorem ev_dep (h : EvD K ta σ H (eRooms R)) (hi : Ev tb σ H (.int i)) (h0 : 0 ≤ i) (h1 : i < R.length) : Ev (tOp (rIxT K) (tOp (rIxT K) ta tb) (tC (.int 2))) σ H (.int (dep R i)) :=
  ev_int (evd_ix (evd_ix h hi (at_room h0 h1)) ev_c ⟨by decide, rfl⟩)
theorem ev_kind (h : EvD K ta σ H (eRooms R)) (hi : Ev tb σ H (.int i)) (h0 : 0 ≤ i) (h1 : i < R.length) : Ev (tOp (rIxT K) (tOp (rIxT K) ta tb) (tC (.int 1))) σ H (.str (kind R i)) :=
  ev_str (evd_ix (evd_ix h hi (at_room h0 h1)) ev_c ⟨by decide, rfl⟩)
theorem ev_keeps (h : EvD K ta σ H (eRooms R)) (hi : Ev tb σ H (.int i)) (h0 : 0 ≤ i) (h1 : i < R.length) : Ev (tOp (rIxT K) (tOp (rIxT K) ta tb) (tC (.int 3))) σ H (.str (keeps R i)) :=
  ev_str (evd_ix (evd_ix h hi (at_room h0 h1)) ev_c ⟨by decide, rfl⟩)
end
/-! ### defs by their names -/
structure DefAt (K : PySem.W.Frag) (mg : Str → Option Value) (x : Str) (st : Stmt) (ps : List Str) : Prop where
  ex : ∃ (f : Addr) (fd : FuncData), L2.Fun K x x st f fd ∧ mg x = some (.ref f) ∧ Binds K fd ps []
section
variable {P : Program} {w : World} {K : PySem.W.Frag} {mg : Str → Option Value} {base : Heap}
theorem cal_of {x : Str} {st : Stmt} {N ps : List Str} {k : Nat} {sp : Sp} (F : DefAt K mg x st ps) (S : FnScope N ps (defScope st)) (len : ∀ vs H Q E, sp vs H Q E → vs.length = ps.length)
    (hbody : ∀ (f : Addr) (cdv : Value) (A : Around) (outer : List Env) (s : Shared) (H : Hp) (vs : List V) (Q : VK) (E : XK), L2.Room k (A.deeper (envOfC x (defScope st) s.heap.objs.size f cdv)) → sp vs H Q E →
      ∃ t, PSs (cxOf CX0 P w K mg base N x (defScope st) f cdv A outer s H E).nox (defBody st) t ∧ t { nx := fun _ H' => Q .non H', rt := Q } (start N vs) H) : C8.Cal P w K mg base (k + 1) x sp [] := by
  obtain ⟨f, fd, F, hm, b⟩ := F.ex
  exact ⟨f, fd, ps, [], F.ok S len (hbody f), hm, F.kp, b, .nil⟩
theorem len_D {α : Type} {ds : α → List PyData} {C : α → Prop} {res : α → PyData} {n : Nat} (h : ∀ x, (ds x).length = n) : ∀ vs H Q E, spD K ds C res vs H Q E → vs.length = n := fun vs H Q E ⟨x, a, _⟩ => by
  rw [dpa_len a, h x]
theorem len_L {α : Type} {ds : α → List PyData} {C : α → Prop} {res : α → List Int} {n : Nat} (h : ∀ x, (ds x).length = n) : ∀ vs H Q E, spL K ds C res vs H Q E → vs.length = n := fun vs H Q E ⟨x, a, _⟩ => by
  rw [dpa_len a, h x]
theorem len_X {α : Type} {ds : α → List PyData} {C : α → Prop} {B : α → PyData → Prop} {n : Nat} (h : ∀ x, (ds x).length = n) : ∀ vs H Q E, spX K ds C B vs H Q E → vs.length = n := fun vs H Q E ⟨x, a, _⟩ => by
  rw [dpa_len a, h x]
end
/-- the module's names that the defs ask -/
structure Txt (mg : Str → Option Value) : Prop where
  m_len : mg "len" = none
  m_range : mg "range" = none
  m_tuple : mg "tuple" = none
  m_list : mg "list" = none
  m_enumerate : mg "enumerate" = none
  m_reversed : mg "reversed" = none
  m_sorted : mg "sorted" = none
  m_max : mg "max" = none
  m_min : mg "min" = none
  m_isinstance : mg "isinstance" = none
  m_str : mg "str" = none
  m_int : mg "int" = none
  m_bool : mg "bool" = none
end Nh
/-! NhText: the defs of the text by their places, their names by slot (printed by gen.py). -/
namespace Nh
open PySem PySem.Spec PyProof.Rows L2 Evl
def topS (i : Nat) : Stmt := PySem.Challenge.pw_nesthall_k26_a_turn_of_doors.main.body.getD i (.Pass ⟨0, 0, 0, 0⟩)
abbrev s_changed : Stmt := topS 2
abbrev N_changed : List Str := ["deed", "boxes", "sizes", "at", "value"]
theorem sc_changed : FnScope N_changed ["deed", "boxes", "sizes"] (defScope s_changed) :=
  ⟨rfl, rfl, rfl, by decide +kernel, rfl, by decide +kernel, by decide +kernel⟩
abbrev s_done : Stmt := topS 3
abbrev N_done : List Str := ["deeds", "boxes", "sizes", "letters", "record", "deed"]
theorem sc_done : FnScope N_done ["deeds", "boxes", "sizes", "letters"] (defScope s_done) :=
  ⟨rfl, rfl, rfl, by decide +kernel, rfl, by decide +kernel, by decide +kernel⟩
abbrev s_holds : Stmt := topS 5
abbrev N_holds : List Str := ["guard", "opening", "boxes", "word"]
theorem sc_holds : FnScope N_holds ["guard", "opening", "boxes"] (defScope s_holds) :=
  ⟨rfl, rfl, rfl, by decide +kernel, rfl, by decide +kernel, by decide +kernel⟩
abbrev s_parent : Stmt := topS 7
abbrev N_parent : List Str := ["rooms", "room", "k"]
theorem sc_parent : FnScope N_parent ["rooms", "room"] (defScope s_parent) :=
  ⟨rfl, rfl, rfl, by decide +kernel, rfl, by decide +kernel, by decide +kernel⟩
abbrev s_end_of : Stmt := topS 8
abbrev N_end_of : List Str := ["rooms", "room", "k"]
theorem sc_end_of : FnScope N_end_of ["rooms", "room"] (defScope s_end_of) :=
  ⟨rfl, rfl, rfl, by decide +kernel, rfl, by decide +kernel, by decide +kernel⟩
abbrev s_kids : Stmt := topS 9
abbrev N_kids : List Str := ["rooms", "room", "found", "k"]
theorem sc_kids : FnScope N_kids ["rooms", "room"] (defScope s_kids) :=
  ⟨rfl, rfl, rfl, by decide +kernel, rfl, by decide +kernel, by decide +kernel⟩
abbrev s_lies_in : Stmt := topS 10
abbrev N_lies_in : List Str := ["rooms", "one", "other"]
theorem sc_lies_in : FnScope N_lies_in ["rooms", "one", "other"] (defScope s_lies_in) :=
  ⟨rfl, rfl, rfl, by decide +kernel, rfl, by decide +kernel, by decide +kernel⟩
abbrev s_hall_over : Stmt := topS 11
abbrev N_hall_over : List Str := ["rooms", "one", "other", "at"]
theorem sc_hall_over : FnScope N_hall_over ["rooms", "one", "other"] (defScope s_hall_over) :=
  ⟨rfl, rfl, rfl, by decide +kernel, rfl, by decide +kernel, by decide +kernel⟩
abbrev s_answer : Stmt := topS 13
abbrev N_answer : List Str := ["chart", "stand", "room", "event", "k", "door"]
theorem sc_answer : FnScope N_answer ["chart", "stand", "room", "event"] (defScope s_answer) :=
  ⟨rfl, rfl, rfl, by decide +kernel, rfl, by decide +kernel, by decide +kernel⟩
abbrev s_covered : Stmt := topS 14
abbrev N_covered : List Str := ["chart", "room", "answers", "other"]
theorem sc_covered : FnScope N_covered ["chart", "room", "answers"] (defScope s_covered) :=
  ⟨rfl, rfl, rfl, by decide +kernel, rfl, by decide +kernel, by decide +kernel⟩
abbrev s_chosen : Stmt := topS 15
abbrev N_chosen : List Str := ["chart", "stand", "event", "answers", "room", "door", "doors"]
theorem sc_chosen : FnScope N_chosen ["chart", "stand", "event"] (defScope s_chosen) :=
  ⟨rfl, rfl, rfl, by decide +kernel, rfl, by decide +kernel, by decide +kernel⟩
abbrev s_goals_of : Stmt := topS 16
abbrev N_goals_of : List Str := ["chart", "kept", "door", "way", "goal"]
theorem sc_goals_of : FnScope N_goals_of ["chart", "kept", "door"] (defScope s_goals_of) :=
  ⟨rfl, rfl, rfl, by decide +kernel, rfl, by decide +kernel, by decide +kernel⟩
abbrev s_bears : Stmt := topS 18
abbrev N_bears : List Str := ["rooms", "room", "goals", "goal"]
theorem sc_bears : FnScope N_bears ["rooms", "room", "goals"] (defScope s_bears) :=
  ⟨rfl, rfl, rfl, by decide +kernel, rfl, by decide +kernel, by decide +kernel⟩
abbrev s_entered : Stmt := topS 19
abbrev N_entered : List Str := ["rooms", "room", "goals", "found", "kid"]
theorem sc_entered : FnScope N_entered ["rooms", "room", "goals"] (defScope s_entered) :=
  ⟨rfl, rfl, rfl, by decide +kernel, rfl, by decide +kernel, by decide +kernel⟩
abbrev s_goings_in : Stmt := topS 20
abbrev N_goings_in : List Str := ["rooms", "under", "goals", "found", "kid"]
theorem sc_goings_in : FnScope N_goings_in ["rooms", "under", "goals"] (defScope s_goings_in) :=
  ⟨rfl, rfl, rfl, by decide +kernel, rfl, by decide +kernel, by decide +kernel⟩
abbrev s_goings_out : Stmt := topS 21
abbrev N_goings_out : List Str := ["rooms", "under", "opening", "found", "room"]
theorem sc_goings_out : FnScope N_goings_out ["rooms", "under", "opening"] (defScope s_goings_out) :=
  ⟨rfl, rfl, rfl, by decide +kernel, rfl, by decide +kernel, by decide +kernel⟩
abbrev s_open_kids : Stmt := topS 23
abbrev N_open_kids : List Str := ["rooms", "room", "opening", "kid"]
theorem sc_open_kids : FnScope N_open_kids ["rooms", "room", "opening"] (defScope s_open_kids) :=
  ⟨rfl, rfl, rfl, by decide +kernel, rfl, by decide +kernel, by decide +kernel⟩
abbrev s_plain_rooms : Stmt := topS 24
abbrev N_plain_rooms : List Str := ["rooms", "some", "room"]
theorem sc_plain_rooms : FnScope N_plain_rooms ["rooms", "some"] (defScope s_plain_rooms) :=
  ⟨rfl, rfl, rfl, by decide +kernel, rfl, by decide +kernel, by decide +kernel⟩
abbrev s_kept_of : Stmt := topS 25
abbrev N_kept_of : List Str := ["rooms", "opening", "room", "before", "r"]
theorem sc_kept_of : FnScope N_kept_of ["rooms", "opening", "room", "before"] (defScope s_kept_of) :=
  ⟨rfl, rfl, rfl, by decide +kernel, rfl, by decide +kernel, by decide +kernel⟩
abbrev s_keeping : Stmt := topS 26
abbrev N_keeping : List Str := ["rooms", "opening", "left", "kept", "found", "room"]
theorem sc_keeping : FnScope N_keeping ["rooms", "opening", "left", "kept"] (defScope s_keeping) :=
  ⟨rfl, rfl, rfl, by decide +kernel, rfl, by decide +kernel, by decide +kernel⟩
abbrev s_Road___init__ : Stmt := inClass (topS 28) 0
abbrev N_Road___init__ : List Str := ["self", "chart", "boxes", "letters", "box"]
theorem sc_Road___init__ : FnScope N_Road___init__ ["self", "chart", "boxes", "letters"] (defScope s_Road___init__) :=
  ⟨rfl, rfl, rfl, by decide +kernel, rfl, by decide +kernel, by decide +kernel⟩
abbrev s_Road_step : Stmt := inClass (topS 28) 1
abbrev N_Road_step : List Str := ["self", "word", "number", "deeds", "found"]
theorem sc_Road_step : FnScope N_Road_step ["self", "word", "number", "deeds"] (defScope s_Road_step) :=
  ⟨rfl, rfl, rfl, by decide +kernel, rfl, by decide +kernel, by decide +kernel⟩
abbrev s_passed : Stmt := topS 29
abbrev N_passed : List Str := ["chart", "stand", "door", "letters", "move", "rooms", "road", "under", "left", "kept", "room", "gone", "opening"]
theorem sc_passed : FnScope N_passed ["chart", "stand", "door", "letters"] (defScope s_passed) :=
  ⟨rfl, rfl, rfl, by decide +kernel, rfl, by decide +kernel, by decide +kernel⟩
abbrev s_turn : Stmt := topS 30
abbrev N_turn : List Str := ["chart", "stand", "event", "letters", "record", "left", "door", "found", "entry"]
theorem sc_turn : FnScope N_turn ["chart", "stand", "event", "letters"] (defScope s_turn) :=
  ⟨rfl, rfl, rfl, by decide +kernel, rfl, by decide +kernel, by decide +kernel⟩
abbrev s_Letters___init__ : Stmt := inClass (topS 32) 0
abbrev N_Letters___init__ : List Str := ["self", "most"]
theorem sc_Letters___init__ : FnScope N_Letters___init__ ["self", "most"] (defScope s_Letters___init__) :=
  ⟨rfl, rfl, rfl, by decide +kernel, rfl, by decide +kernel, by decide +kernel⟩
abbrev s_Letters_add : Stmt := inClass (topS 32) 1
abbrev N_Letters_add : List Str := ["self", "event"]
theorem sc_Letters_add : FnScope N_Letters_add ["self", "event"] (defScope s_Letters_add) :=
  ⟨rfl, rfl, rfl, by decide +kernel, rfl, by decide +kernel, by decide +kernel⟩
abbrev s_Letters_waiting : Stmt := inClass (topS 32) 3
abbrev N_Letters_waiting : List Str := ["self"]
theorem sc_Letters_waiting : FnScope N_Letters_waiting ["self"] (defScope s_Letters_waiting) :=
  ⟨rfl, rfl, rfl, by decide +kernel, rfl, by decide +kernel, by decide +kernel⟩
abbrev s_law_cell_at : Stmt := topS 34
abbrev N_law_cell_at : List Str := ["_law_script", "_law_k"]
theorem sc_law_cell_at : FnScope N_law_cell_at ["_law_script", "_law_k"] (defScope s_law_cell_at) :=
  ⟨rfl, rfl, rfl, by decide +kernel, rfl, by decide +kernel, by decide +kernel⟩
abbrev s_law_mixed : Stmt := topS 35
abbrev N_law_mixed : List Str := ["_law_script", "_law_k", "_law_salt", "_law_cell", "_law_lap", "_law_near"]
theorem sc_law_mixed : FnScope N_law_mixed ["_law_script", "_law_k", "_law_salt"] (defScope s_law_mixed) :=
  ⟨rfl, rfl, rfl, by decide +kernel, rfl, by decide +kernel, by decide +kernel⟩
abbrev s_law_lies : Stmt := topS 36
abbrev N_law_lies : List Str := ["_law_rooms_here", "_law_one", "_law_other", "_law_k"]
theorem sc_law_lies : FnScope N_law_lies ["_law_rooms_here", "_law_one", "_law_other"] (defScope s_law_lies) :=
  ⟨rfl, rfl, rfl, by decide +kernel, rfl, by decide +kernel, by decide +kernel⟩
abbrev s_law_holds : Stmt := topS 37
abbrev N_law_holds : List Str := ["_law_guard", "_law_opening", "_law_boxes", "_law_one", "_law_other"]
theorem sc_law_holds : FnScope N_law_holds ["_law_guard", "_law_opening", "_law_boxes"] (defScope s_law_holds) :=
  ⟨rfl, rfl, rfl, by decide +kernel, rfl, by decide +kernel, by decide +kernel⟩
abbrev s_law_answer : Stmt := topS 38
abbrev N_law_answer : List Str := ["_law_chart", "_law_stand_here", "_law_room", "_law_event", "_law_k", "_law_door"]
theorem sc_law_answer : FnScope N_law_answer ["_law_chart", "_law_stand_here", "_law_room", "_law_event"] (defScope s_law_answer) :=
  ⟨rfl, rfl, rfl, by decide +kernel, rfl, by decide +kernel, by decide +kernel⟩
abbrev s_law_same : Stmt := topS 39
abbrev N_law_same : List Str := ["_law_found", "_law_due_here", "_law_k"]
theorem sc_law_same : FnScope N_law_same ["_law_found", "_law_due_here"] (defScope s_law_same) :=
  ⟨rfl, rfl, rfl, by decide +kernel, rfl, by decide +kernel, by decide +kernel⟩
abbrev s_law_deeds : Stmt := topS 40
abbrev N_law_deeds : List Str := ["_law_number", "_law_events", "_law_deeds_here"]
theorem sc_law_deeds : FnScope N_law_deeds ["_law_number", "_law_events"] (defScope s_law_deeds) :=
  ⟨rfl, rfl, rfl, by decide +kernel, rfl, by decide +kernel, by decide +kernel⟩
abbrev s_law_rooms : Stmt := topS 41
abbrev N_law_rooms : List Str := ["_law_script", "_law_events", "_law_depths", "_law_k", "_law_j", "_law_rooms_here", "_law_kind", "_law_keeps", "_law_ins", "_law_outs"]
theorem sc_law_rooms : FnScope N_law_rooms ["_law_script", "_law_events"] (defScope s_law_rooms) :=
  ⟨rfl, rfl, rfl, by decide +kernel, rfl, by decide +kernel, by decide +kernel⟩
abbrev s_law_doors : Stmt := topS 42
abbrev N_law_doors : List Str := ["_law_script", "_law_rooms_here", "_law_events", "_law_low", "_law_k", "_law_doors_here", "_law_number", "_law_room", "_law_goal", "_law_way", "_law_guard", "_law_deeds_here"]
theorem sc_law_doors : FnScope N_law_doors ["_law_script", "_law_rooms_here", "_law_events"] (defScope s_law_doors) :=
  ⟨rfl, rfl, rfl, by decide +kernel, rfl, by decide +kernel, by decide +kernel⟩
abbrev s_law_stand : Stmt := topS 43
abbrev N_law_stand : List Str := ["_law_script", "_law_rooms_here", "_law_at", "_law_opening", "_law_k", "_law_many", "_law_room"]
theorem sc_law_stand : FnScope N_law_stand ["_law_script", "_law_rooms_here", "_law_at"] (defScope s_law_stand) :=
  ⟨rfl, rfl, rfl, by decide +kernel, rfl, by decide +kernel, by decide +kernel⟩
abbrev s_law_chosen : Stmt := topS 44
abbrev N_law_chosen : List Str := ["_law_chart", "_law_stand_here", "_law_event", "_law_answers", "_law_room", "_law_doors_here", "_law_ahead", "_law_other"]
theorem sc_law_chosen : FnScope N_law_chosen ["_law_chart", "_law_stand_here", "_law_event"] (defScope s_law_chosen) :=
  ⟨rfl, rfl, rfl, by decide +kernel, rfl, by decide +kernel, by decide +kernel⟩
abbrev s_law_due : Stmt := topS 45
abbrev N_law_due : List Str := ["_law_chart", "_law_stand_here", "_law_event", "_law_letters", "_law_record", "_law_left", "_law_door", "_law_found", "_law_entry"]
theorem sc_law_due : FnScope N_law_due ["_law_chart", "_law_stand_here", "_law_event", "_law_letters"] (defScope s_law_due) :=
  ⟨rfl, rfl, rfl, by decide +kernel, rfl, by decide +kernel, by decide +kernel⟩
abbrev s_law : Stmt := topS 46
abbrev N_law : List Str := ["_law_script", "_law_events", "_law_rooms_here", "_law_doors_here", "_law_order", "_law_most", "_law_names", "_law_chart", "_law_at", "_law_stand_here", "_law_event", "_law_mine", "_law_theirs", "_law_k", "_law_due_here", "_law_found"]
theorem sc_law : FnScope N_law ["_law_script"] (defScope s_law) :=
  ⟨rfl, rfl, rfl, by decide +kernel, rfl, by decide +kernel, by decide +kernel⟩
end Nh
/-! NhNest: nesting.py: parent, end_of, kids, lies_in, hall_over. -/
namespace Nh
open PySem PySem.Spec PyProof.Rows L2 Evl
section
variable {P : Program} {w : World} {K : PySem.W.Frag} {mg : Str → Option Value} {base : Heap}
/-! ### parent -/
def aRoom (R : List Room) (room : Int) : Prop := 0 ≤ room ∧ room < R.length ∧ R.length ≤ 20
def spParent (K : PySem.W.Frag) : Sp := spD K (fun x : List Room × Int => [eRooms x.1, .int x.2]) (fun x => aRoom x.1 x.2) (fun x => optD (parentF x.1 x.2))
theorem cal_parent (F : DefAt K mg "parent" s_parent ["rooms", "room"]) : C8.Cal P w K mg base 1 "parent" (spParent K) [] := by
  refine cal_of F sc_parent (len_D fun _ => rfl) (fun f cdv A outer s H vs Q E hr h => ?_)
  obtain ⟨⟨R, room⟩, hv, ha, q⟩ := h
  dsimp only at hv ha q
  obtain ⟨h0, h1, h20⟩ := id ha
  obtain ⟨v, u, rfl, hR, hu⟩ := dpa2 hv
  have eu := dp_int hu
  subst eu
  refine ⟨_, (pss_cons (ps_set (i := 2) sc_parent.nd rfl (.inl rfl) (pe_op op_sub (pv 1) pe_int))
    (pss_cons (ps_while PassesOwn.never (pt_cmpR op_ge (pv 2) pe_int (nomark _)) (pss_cons (ps_if (pt_cmpR op_lt (pe_ix ix_tup (pe_ix ix_tup (pv 0) (pv 2) (fun _ _ => rfl)) pe_int (fun _ _ => rfl)) (pe_ix ix_tup (pe_ix ix_tup (pv 0) (pv 1) (fun _ _ => rfl)) pe_int (fun _ _ => rfl)) (nomark _)) (pss_one (ps_ret (pv 2))) pss_nil)
    (pss_one (ps_set (i := 2) sc_parent.nd rfl (.inl rfl) (pe_op op_sub (pv 2) pe_int)))))
    (pss_one (ps_ret pe_non)))), ?_⟩
  -- k = room - 1
  refine q_asg (ev_op (ev_var rfl) ev_c rv_I0) fun H1 e1 => ?_
  refine q_while (fun m σ' H' => Ex H H' ∧ m ≤ room ∧ σ' = [some v, some (.int room), some (.int ((m : Int) - 1))] ∧ parGo R (dep R room) m = parentF R room) room.toNat
    ⟨e1, by omega, by rw [show ((room.toNat : Nat) : Int) = room from Int.toNat_of_nonneg h0]; rfl, rfl⟩ ?_
  rintro m σ' H' ⟨e, hm, rfl, hp⟩
  refine ⟨_, et_test (ev_op (ev_var rfl) ev_c rv_I0), fun hb H2 e2 => ?_, fun hb H2 e2 => ?_⟩
  · have hb' := of_decide_eq_true hb
    obtain ⟨n, rfl⟩ : ∃ n, m = n + 1 := ⟨m - 1, by omega⟩
    have en : ((n + 1 : Nat) : Int) - 1 = (n : Int) := by omega
    rw [en]
    have eR := mv hR (e.trans e2)
    refine ⟨fun σ2 H3 => Ex H H3 ∧ σ2 = [some v, some (.int room), some (.int ((n : Int) - 1))] ∧ parGo R (dep R room) n = parentF R room, fun σ2 H3 ⟨a, b, c⟩ => ⟨n, by omega, a, by omega, b, c⟩, ?_⟩
    refine q_when (et_test (ev_op (ev_dep (evd_var rfl eR) (ev_var rfl) (by omega) (by omega)) (ev_dep (evd_var rfl eR) (ev_var rfl) h0 h1) rv_I0)) (fun hc H3 e3 => ?_) fun hc H3 e3 => ?_
    · refine s_ret (ev_var rfl) fun H4 e4 => ?_
      have hp' : (if dep R (n : Int) < dep R room then some (n : Int) else parGo R (dep R room) n) = parentF R room := hp
      rw [if_pos (of_decide_eq_true hc)] at hp'
      refine q _ _ (((e.trans e2).trans e3).trans e4) ?_
      show Dp K H4 (.int n) (optD (parentF R room))
      rw [← hp']
      exact .int _
    · refine s_asg (ev_op (ev_var rfl) ev_c rv_I0) fun H4 e4 => ?_
      have hp' : (if dep R (n : Int) < dep R room then some (n : Int) else parGo R (dep R room) n) = parentF R room := hp
      rw [if_neg (of_decide_eq_false hc)] at hp'
      exact ⟨((e.trans e2).trans e3).trans e4, rfl, hp'⟩
  · have hb' := of_decide_eq_false hb
    obtain rfl : m = 0 := by omega
    refine s_ret ev_c fun H3 e3 => ?_
    refine q _ _ ((e.trans e2).trans e3) ?_
    show Dp K H3 .non (optD (parentF R room))
    rw [← hp]
    exact .non
/-! ### end_of -/
theorem endGo_ge (R : List Room) (d : Int) : ∀ (f k : Nat), k ≤ endGo R d f k ∧ endGo R d f k ≤ k + f
  | 0, k => ⟨Nat.le_refl k, Nat.le_refl k⟩
  | f + 1, k => by
    show k ≤ (if d < dep R (k : Int) then endGo R d f (k + 1) else k) ∧ (if d < dep R (k : Int) then endGo R d f (k + 1) else k) ≤ k + (f + 1)
    have ih := endGo_ge R d f (k + 1)
    split <;> omega
theorem endF_ge {R : List Room} {room : Int} (h : aRoom R room) : room + 1 ≤ endF R room ∧ endF R room ≤ R.length := by
  obtain ⟨h0, h1, _⟩ := h
  have e := endGo_ge R (dep R room) (R.length - (room.toNat + 1)) (room.toNat + 1)
  unfold endF
  omega
def spEnd (K : PySem.W.Frag) : Sp := spD K (fun x : List Room × Int => [eRooms x.1, .int x.2]) (fun x => aRoom x.1 x.2) (fun x => .int (endF x.1 x.2))
theorem cal_end_of (T : Txt mg) (F : DefAt K mg "end_of" s_end_of ["rooms", "room"]) : C8.Cal P w K mg base 1 "end_of" (spEnd K) [] := by
  refine cal_of F sc_end_of (len_D fun _ => rfl) (fun f cdv A outer s H vs Q E hr h => ?_)
  obtain ⟨⟨R, room⟩, hv, ha, q⟩ := h
  dsimp only at hv ha q
  obtain ⟨h0, h1, h20⟩ := id ha
  obtain ⟨v, u, rfl, hR, hu⟩ := dpa2 hv
  have eu := dp_int hu
  subst eu
  refine ⟨_, (pss_cons (ps_set (i := 2) sc_end_of.nd rfl (.inl rfl) (pe_op op_add (pv 1) pe_int))
    (pss_cons (ps_while PassesOwn.never (PW.pt (pw_and (pt_cmpR op_lt (pv 2) (pe_callB call_len_seq (by rfl) T.m_len (by decide +kernel) (pa_cons (pv 0) pa_nil)) (nomark _)) (pw_and1 (pt_cmpR op_gt (pe_ix ix_tup (pe_ix ix_tup (pv 0) (pv 2) (fun _ _ => rfl)) pe_int (fun _ _ => rfl)) (pe_ix ix_tup (pe_ix ix_tup (pv 0) (pv 1) (fun _ _ => rfl)) pe_int (fun _ _ => rfl)) (nomark _))))) (pss_one (ps_set (i := 2) sc_end_of.nd rfl (.inl rfl) (pe_op op_add (pv 2) pe_int))))
    (pss_one (ps_ret (pv 2))))), ?_⟩
  -- k = room + 1
  refine q_asg (ev_op (ev_var rfl) ev_c rv_I0) fun H1 e1 => ?_
  refine q_while (fun m σ' H' => Ex H H' ∧ m ≤ R.length ∧ room + 1 ≤ ((R.length - m : Nat) : Int) ∧ σ' = [some v, some (.int room), some (.int ((R.length - m : Nat) : Int))] ∧ ((endGo R (dep R room) m (R.length - m) : Nat) : Int) = endF R room) (R.length - (room.toNat + 1)) ⟨e1, ?_⟩ ?_
  · have ek : R.length - (R.length - (room.toNat + 1)) = room.toNat + 1 := by omega
    rw [ek]
    refine ⟨by omega, by omega, ?_, rfl⟩
    rw [show ((room.toNat + 1 : Nat) : Int) = room + 1 by omega]
    rfl
  rintro m σ' H' ⟨e, hm, hk, rfl, hp⟩
  have eR := mv hR e
  refine ⟨_, et_and (et_test (ev_op (ev_var rfl) (ev_lenT (evd_var rfl eR)) rv_I0)) (fun hlt => et_test (ev_op (ev_dep (evd_var rfl eR) (ev_var rfl) (by omega) ?_) (ev_dep (evd_var rfl eR) (ev_var rfl) h0 h1) rv_I0)), fun hb H2 e2 => ?_, fun hb H2 e2 => ?_⟩
  · have z := of_decide_eq_true hlt
    rw [List.length_map] at z
    exact z
  · rw [Bool.and_eq_true] at hb
    have hb1 := of_decide_eq_true hb.1
    have hb2 := of_decide_eq_true hb.2
    rw [List.length_map] at hb1
    obtain ⟨n, rfl⟩ : ∃ n, m = n + 1 := ⟨m - 1, by omega⟩
    refine ⟨fun σ2 H3 => Ex H H3 ∧ n ≤ R.length ∧ room + 1 ≤ ((R.length - n : Nat) : Int) ∧ σ2 = [some v, some (.int room), some (.int ((R.length - n : Nat) : Int))] ∧ ((endGo R (dep R room) n (R.length - n) : Nat) : Int) = endF R room, fun σ2 H3 a => ⟨n, by omega, a⟩, ?_⟩
    refine s_asg (ev_op (ev_var rfl) ev_c rv_I0) fun H3 e3 => ?_
    have ek : R.length - (n + 1) + 1 = R.length - n := by omega
    refine ⟨(e.trans e2).trans e3, by omega, by omega, ?_, ?_⟩
    · rw [← ek]
      rfl
    · have hp' : ((if dep R room < dep R ((R.length - (n + 1) : Nat) : Int) then endGo R (dep R room) n (R.length - (n + 1) + 1) else R.length - (n + 1) : Nat) : Int) = endF R room := hp
      rw [if_pos hb2, ek] at hp'
      exact hp'
  · refine s_ret (ev_var rfl) fun H3 e3 => ?_
    refine q _ _ ((e.trans e2).trans e3) ?_
    have fin : ((R.length - m : Nat) : Int) = endF R room := by
      rw [← hp]
      cases m with
      | zero => rfl
      | succ n =>
        have c : ¬ dep R room < dep R ((R.length - (n + 1) : Nat) : Int) := fun z => by
          rw [decide_eq_true z, Bool.and_true] at hb
          have hb1 := of_decide_eq_false hb
          rw [List.length_map] at hb1
          omega
        show _ = ((if dep R room < dep R ((R.length - (n + 1) : Nat) : Int) then endGo R (dep R room) n (R.length - (n + 1) + 1) else R.length - (n + 1) : Nat) : Int)
        rw [if_neg c]
    show Dp K H3 _ (.int (endF R room))
    rw [← fin]
    exact .int _
theorem ev_end {σ : L2.St} {H : Hp} {t0 t1 : TE} {R : List Room} {room : Int} {E : XK} (h0 : EvD K t0 σ H (eRooms R)) (h1 : Ev t1 σ H (.int room)) (ha : aRoom R room) : Ev (tCall (spEnd K) [] E (tCons t0 (tCons t1 tNil))) σ H (.int (endF R room)) :=
  ev_int (evd_call (R, room) (ead_cons h0 (ead_cons (evd_int h1) ead_nil)) ha)
/-! ### kids -/
theorem rng_succ (lo : Int) (n : Nat) : rng lo (n + 1) = rng lo n ++ [lo + (n : Int)] := by
  unfold rng
  rw [List.range_succ, List.map_append]
  rfl
theorem rng_len (lo : Int) (n : Nat) : (rng lo n).length = n := by
  unfold rng
  rw [List.length_map, List.length_range]
def spKids (K : PySem.W.Frag) : Sp := spL K (fun x : List Room × Int => [eRooms x.1, .int x.2]) (fun x => aRoom x.1 x.2) (fun x => kidsF x.1 x.2)
theorem cal_kids (T : Txt mg) (F : DefAt K mg "kids" s_kids ["rooms", "room"]) (c_end_of : C8.Cal P w K mg base 1 "end_of" (spEnd K) []) : C8.Cal P w K mg base 2 "kids" (spKids K) [] := by
  refine cal_of F sc_kids (len_L fun _ => rfl) (fun f cdv A outer s H vs Q E hr h => ?_)
  obtain ⟨⟨R, room⟩, hv, ha, q⟩ := h
  dsimp only at hv ha q
  obtain ⟨v, u, rfl, hR, hu⟩ := dpa2 hv
  have eu := dp_int hu
  subst eu
  have hg := endF_ge ha
  obtain ⟨h0, h1, h20⟩ := id ha
  refine ⟨_, (pss_cons (ps_set (i := 2) sc_kids.nd rfl (.inl rfl) (pe_lst pa_nil))
    (pss_cons (ps_for PassesOwn.never rfl (pi_range2 (by rfl) T.m_range (pa_cons (pe_op op_add (pv 1) pe_int) (pa_cons (C8.pe_c c_end_of hr (by omega) (by rfl) (pa_cons (pv 0) (pa_cons (pv 1) pa_nil))) pa_nil))) (pg_name (i := 3) sc_kids.nd rfl (.inl rfl)) (pss_one (ps_if (pt_cmpR op_eq (pe_ix ix_tup (pe_ix ix_tup (pv 0) (pv 3) (fun _ _ => rfl)) pe_int (fun _ _ => rfl)) (pe_op op_add (pe_ix ix_tup (pe_ix ix_tup (pv 0) (pv 1) (fun _ _ => rfl)) pe_int (fun _ _ => rfl)) pe_int) (nomark _)) (pss_one (ps_expr (pe_bm PySem.F.plainAttrs_list PySem.F.slot_list_append PySem.F.type_list_append mt_append (pv 2) (pa_cons (pv 3) pa_nil)))) pss_nil)))
    (pss_one (ps_ret (pv 2))))), ?_⟩
  refine q_asgL (el_lst ea_nil (Nat.zero_le _)) fun p H1 np e1 hp => ?_
  have R1 := mv hR e1
  refine q_forR2 (ea_cons (ev_op (ev_var rfl) ev_c rv_I0) (ea_cons (ev_end (evd_var rfl R1) (ev_var rfl) ha) ea_nil)) (by omega)
    (fun i σ' H' => Ex H H' ∧ (∃ y, σ' = [some v, some (.int room), some (.ref p), y]) ∧ H' p = some (.lst (((rng (room + 1) i).filter fun k => decide (dep R k = dep R room + 1)).map V.int)))
    (fun H2 e2 => ⟨e1.trans e2, ⟨_, rfl⟩, e2 _ _ hp⟩) (fun i σ' H' hi ⟨e, ⟨y, es⟩, hl⟩ => ?_) fun σ' H' ⟨e, ⟨y, es⟩, hl⟩ => ?_
  · subst es
    have R2 := mv hR e
    refine s_when (et_test (ev_eqI (ev_dep (evd_var rfl R2) (ev_var rfl) (by omega) (by omega)) (ev_op (ev_dep (evd_var rfl R2) (ev_var rfl) h0 h1) ev_c rv_I0))) (fun hc H2 e2 => ?_) fun hc H2 e2 => ?_
    · refine s_app (e2 _ _ hl) (ev_var rfl) (ev_var rfl) ?_ fun H3 e3 => ?_
      · rw [List.length_map]
        have z := List.length_filter_le (fun k => decide (dep R k = dep R room + 1)) (rng (room + 1) i)
        rw [rng_len] at z
        omega
      · refine ⟨((e.trans e2).trans e3).mut np, ⟨_, rfl⟩, ?_⟩
        rw [upd_same, rng_succ, List.filter_append, List.map_append, List.filter_cons_of_pos (by exact hc), List.filter_nil]
        rfl
    · refine ⟨e.trans e2, ⟨_, rfl⟩, ?_⟩
      rw [rng_succ, List.filter_append, List.map_append, List.filter_cons_of_neg (by rw [hc]; exact Bool.false_ne_true), List.filter_nil, List.map_nil, List.append_nil]
      exact e2 _ _ hl
  · subst es
    refine s_ret (ev_var rfl) fun H2 e2 => ?_
    exact q p H2 np (e.trans e2) (e2 _ _ hl)
/-! ### lies_in -/
theorem ev_chainLt {σ : L2.St} {H : Hp} {ta tb tc : TE} {i j k : Int} (ha : Ev ta σ H (.int i)) (hb : Ev tb σ H (.int j)) (hc : i < j → Ev tc σ H (.int k)) :
    Ev (tChain (rI0 fun i j => .bl (decide (i < j))) (rI0 fun i j => .bl (decide (i < j))) ta tb tc) σ H (.bl (decide (i < j) && decide (j < k))) := fun H1 e Q q =>
  ha H1 e _ fun H2 e2 => hb H2 (e.trans e2) _ fun H3 e3 => by
    refine ⟨i, j, rfl, rfl, decide (i < j), rfl, ?_⟩
    by_cases h : i < j
    · rw [if_pos (decide_eq_true h)]
      refine hc h H3 ((e.trans e2).trans e3) _ fun H4 e4 => ⟨j, k, rfl, rfl, ?_⟩
      have z := q H4 ((e2.trans e3).trans e4)
      rw [decide_eq_true h, Bool.true_and] at z
      exact z
    · rw [if_neg (by rw [decide_eq_false h]; exact Bool.false_ne_true)]
      have z := q H3 (e2.trans e3)
      rw [decide_eq_false h, Bool.false_and] at z
      exact z
def spLies (K : PySem.W.Frag) : Sp := spD K (fun x : List Room × Int × Int => [eRooms x.1, .int x.2.1, .int x.2.2]) (fun x => aRoom x.1 x.2.2) (fun x => .bool (liesF x.1 x.2.1 x.2.2))
theorem cal_lies_in (F : DefAt K mg "lies_in" s_lies_in ["rooms", "one", "other"]) (c_end_of : C8.Cal P w K mg base 1 "end_of" (spEnd K) []) : C8.Cal P w K mg base 2 "lies_in" (spLies K) [] := by
  refine cal_of F sc_lies_in (len_D fun _ => rfl) (fun f cdv A outer s H vs Q E hr h => ?_)
  obtain ⟨⟨R, one, other⟩, hv, ha, q⟩ := h
  dsimp only at hv ha q
  obtain ⟨v, u, x, rfl, hR, hu, hx⟩ := dpa3 hv
  have eu := dp_int hu
  subst eu
  have ex := dp_int hx
  subst ex
  refine ⟨_, (pss_one (ps_ret (pe_chain op_lt op_lt (pv 2) (pv 1) (C8.pe_c c_end_of hr (by omega) (by rfl) (pa_cons (pv 0) (pa_cons (pv 2) pa_nil)))))), ?_⟩
  refine s_ret (ev_chainLt (ev_var rfl) (ev_var rfl) fun _ => ev_int (evd_call (R, other) (ead_cons (evd_var rfl hR) (ead_cons (evd_int (ev_var rfl)) ead_nil)) ha)) fun H2 e2 => ?_
  exact q _ _ e2 (.bl _)
theorem et_lies {σ : L2.St} {H : Hp} {t0 t1 t2 : TE} {R : List Room} {one other : Int} {E : XK} (h0 : EvD K t0 σ H (eRooms R)) (h1 : Ev t1 σ H (.int one)) (h2 : Ev t2 σ H (.int other)) (ha : aRoom R other) :
    Ev (tCall (spLies K) [] E (tCons t0 (tCons t1 (tCons t2 tNil)))) σ H (.bl (liesF R one other)) :=
  ev_bl (evd_call (R, one, other) (ead_cons h0 (ead_cons (evd_int h1) (ead_cons (evd_int h2) ead_nil))) ha)
/-! ### hall_over -/
theorem parGo_lt (R : List Room) (d : Int) : ∀ (n : Nat) {a : Int}, parGo R d n = some a → 0 ≤ a ∧ a < n
  | 0, _, h => by cases h
  | n + 1, a, h => by
    have h' : (if dep R (n : Int) < d then some (n : Int) else parGo R d n) = some a := h
    split at h'
    · have e := Option.some.inj h'
      omega
    · have z := parGo_lt R d n h'
      omega
theorem parent_lt {R : List Room} {room a : Int} (h : 0 ≤ room) (e : parentF R room = some a) : 0 ≤ a ∧ a < room := by
  have z := parGo_lt R _ _ e
  omega
theorem hallGo_none (R : List Room) (other : Int) : ∀ n : Nat, hallGo R other n none = none
  | 0 => rfl
  | _ + 1 => rfl
def spHall (K : PySem.W.Frag) : Sp := spD K (fun x : List Room × Int × Int => [eRooms x.1, .int x.2.1, .int x.2.2]) (fun x => aRoom x.1 x.2.1) (fun x => optD (hallF x.1 x.2.1 x.2.2))
theorem cal_hall_over (F : DefAt K mg "hall_over" s_hall_over ["rooms", "one", "other"]) (c_parent : C8.Cal P w K mg base 1 "parent" (spParent K) []) (c_lies_in : C8.Cal P w K mg base 2 "lies_in" (spLies K) []) :
    C8.Cal P w K mg base 3 "hall_over" (spHall K) [] := by
  refine cal_of F sc_hall_over (len_D fun _ => rfl) (fun f cdv A outer s H vs Q E hr h => ?_)
  obtain ⟨⟨R, one, other⟩, hv, ha, q⟩ := h
  dsimp only at hv ha q
  obtain ⟨v, u, x, rfl, hR, hu, hx⟩ := dpa3 hv
  have eu := dp_int hu
  subst eu
  have ex := dp_int hx
  subst ex
  obtain ⟨h0, h1, h20⟩ := id ha
  refine ⟨_, (pss_cons (ps_set (i := 3) sc_hall_over.nd rfl (.inl rfl) (C8.pe_c c_parent hr (by omega) (by rfl) (pa_cons (pv 0) (pa_cons (pv 1) pa_nil))))
    (pss_cons (ps_while PassesOwn.never (pt_cmpR op_notN (pv 3) pe_non (nomark _)) (pss_cons (ps_if (PW.pt (pw_and (pt_cmpR op_eq (pe_ix ix_tup (pe_ix ix_tup (pv 0) (pv 3) (fun _ _ => rfl)) pe_int (fun _ _ => rfl)) pe_str (nomark _)) (pw_and1 (pt_val (C8.pe_c c_lies_in hr (by omega) (by rfl) (pa_cons (pv 0) (pa_cons (pv 2) (pa_cons (pv 3) pa_nil)))))))) (pss_one (ps_ret (pv 3))) pss_nil)
    (pss_one (ps_set (i := 3) sc_hall_over.nd rfl (.inl rfl) (C8.pe_c c_parent hr (by omega) (by rfl) (pa_cons (pv 0) (pa_cons (pv 3) pa_nil)))))))
    (pss_one (ps_ret pe_non)))), ?_⟩
  refine q_asg (ev_opt (evd_call (R, one) (ead_cons (evd_var rfl hR) (ead_cons (evd_int (ev_var rfl)) ead_nil)) ha)) fun H1 e1 => ?_
  refine q_while (fun m σ' H' => Ex H H' ∧ ∃ o : Option Int, (∀ a, o = some a → 0 ≤ a ∧ a + 1 < m ∧ a < R.length) ∧ σ' = [some v, some (.int one), some (.int other), some (optV o)] ∧ hallGo R other m o = hallF R one other) (one.toNat + 1)
    ⟨e1, _, fun a ea => ?_, rfl, rfl⟩ ?_
  · have z := parent_lt h0 ea
    omega
  rintro m σ' H' ⟨e, o, ho, rfl, hp⟩
  have R1 := mv hR e
  refine ⟨_, et_test (ev_notN (ev_var rfl)), fun hb H2 e2 => ?_, fun hb H2 e2 => ?_⟩
  · obtain ⟨a, rfl⟩ : ∃ a, o = some a := Option.isSome_iff_exists.mp hb
    obtain ⟨ha0, ham, hal⟩ := ho a rfl
    have haa : aRoom R a := ⟨ha0, hal, h20⟩
    obtain ⟨n, rfl⟩ : ∃ n, m = n + 1 := ⟨m - 1, by omega⟩
    have R2 := mv R1 e2
    refine ⟨fun σ2 H3 => Ex H H3 ∧ ∃ o : Option Int, (∀ a, o = some a → 0 ≤ a ∧ a + 1 < n ∧ a < R.length) ∧ σ2 = [some v, some (.int one), some (.int other), some (optV o)] ∧ hallGo R other n o = hallF R one other, fun σ2 H3 a => ⟨n, by omega, a⟩, ?_⟩
    have hp' : (if (decide (kind R a = "one") && liesF R other a) = true then some a else hallGo R other n (parentF R a)) = hallF R one other := hp
    refine q_when (et_and (et_test (ev_eqS (ev_kind (evd_var rfl R2) (ev_var rfl) ha0 hal) ev_c)) fun _ => et_B (et_lies (evd_var rfl R2) (ev_var rfl) (ev_var rfl) haa)) (fun hc H3 e3 => ?_) fun hc H3 e3 => ?_
    · refine s_ret (ev_var rfl) fun H4 e4 => ?_
      rw [if_pos hc] at hp'
      refine q _ _ (((e.trans e2).trans e3).trans e4) ?_
      show Dp K H4 (.int a) (optD (hallF R one other))
      rw [← hp']
      exact .int _
    · refine s_asg (ev_opt (evd_call (R, a) (ead_cons (evd_var rfl (mv R2 e3)) (ead_cons (evd_int (ev_var rfl)) ead_nil)) haa)) fun H4 e4 => ?_
      rw [if_neg (by rw [hc]; exact Bool.false_ne_true)] at hp'
      refine ⟨((e.trans e2).trans e3).trans e4, _, fun b eb => ?_, rfl, hp'⟩
      have z := parent_lt ha0 eb
      omega
  · obtain rfl : o = none := by
      cases o with
      | none => rfl
      | some a => cases hb
    refine s_ret ev_c fun H3 e3 => ?_
    refine q _ _ ((e.trans e2).trans e3) ?_
    rw [hallGo_none] at hp
    show Dp K H3 .non (optD (hallF R one other))
    rw [← hp]
    exact .non
end
end Nh
/-! NhGoing: goings.py and what keeping asks. -/
namespace Nh
open PySem PySem.Spec PyProof.Rows L2 Evl
section
variable {P : Program} {w : World} {K : PySem.W.Frag} {mg : Str → Option Value} {base : Heap}
def lints (ns : List Int) : PyData := .list (ns.map PyData.int)
theorem get_ints {ns : List Int} {i : Nat} {d : PyData} (h : (ns.map PyData.int)[i]? = some d) : ∃ r, ns[i]? = some r ∧ d = .int r := by
  rw [List.getElem?_map] at h
  cases c : ns[i]? with
  | none =>
    rw [c] at h
    cases h
  | some r =>
    rw [c] at h
    exact ⟨r, rfl, (Option.some.inj h).symm⟩
theorem take_snoc {α : Type} {l : List α} {i : Nat} {x : α} (h : l[i]? = some x) : l.take (i + 1) = l.take i ++ [x] := by
  rw [List.take_add_one, h]
  rfl
/-! ### bears -/
def spBears (K : PySem.W.Frag) : Sp := spD K (fun x : List Room × Int × List Int => [eRooms x.1, .int x.2.1, lints x.2.2]) (fun x => aRoom x.1 x.2.1) (fun x => .bool (bearsF x.1 x.2.1 x.2.2))
theorem cal_bears (F : DefAt K mg "bears" s_bears ["rooms", "room", "goals"]) (c_lies_in : C8.Cal P w K mg base 2 "lies_in" (spLies K) []) : C8.Cal P w K mg base 3 "bears" (spBears K) [] := by
  refine cal_of F sc_bears (len_D fun _ => rfl) (fun f cdv A outer s H vs Q E hr h => ?_)
  obtain ⟨⟨R, room, goals⟩, hv, ha, q⟩ := h
  dsimp only at hv ha q
  obtain ⟨v, u, g, rfl, hR, hu, hg⟩ := dpa3 hv
  have eu := dp_int hu
  subst eu
  refine ⟨_, (pss_cons (ps_for PassesOwn.never rfl (pi_list (pv 2)) (pg_name (i := 3) sc_bears.nd rfl (.inl rfl)) (pss_one (ps_if (PW.pt (pw_or (pt_cmpR op_eq (pv 3) (pv 1) (nomark _)) (pw_or1 (pt_val (C8.pe_c c_lies_in hr (by omega) (by rfl) (pa_cons (pv 0) (pa_cons (pv 3) (pa_cons (pv 1) pa_nil)))))))) (pss_one (ps_ret pe_bl)) pss_nil)))
    (pss_one (ps_ret pe_bl))), ?_⟩
  refine q_forLD (evd_var rfl hg) fun H1 e1 => ⟨fun i σ' H' => Ex H1 H' ∧ (∃ y, σ' = [some v, some (.int room), some g, y]) ∧ (goals.take i).any (fun g => decide (g = room) || liesF R g room) = false, ⟨Ex.refl H1, ⟨_, rfl⟩, by rw [List.take_zero]; rfl⟩, fun i σ' H' p => p.1, fun i d x σ' H' gd hx ⟨e2, ⟨y, es⟩, hn⟩ => ?_, fun σ' H' ⟨e2, ⟨y, es⟩, hn⟩ => ?_⟩
  · subst es
    obtain ⟨r, gr, rfl⟩ := get_ints gd
    have ex := dp_int hx
    subst ex
    have R2 := mv hR (e1.trans e2)
    refine s_when (et_or (et_test (ev_eqI (ev_var rfl) (ev_var rfl))) fun _ => et_B (et_lies (evd_var rfl R2) (ev_var rfl) (ev_var rfl) ha)) (fun hc H3 e3 => ?_) fun hc H3 e3 => ?_
    · refine s_ret ev_c fun H4 e4 => ?_
      have hb : bearsF R room goals = true := List.any_eq_true.mpr ⟨r, List.mem_of_getElem? gr, hc⟩
      refine q _ _ (((e1.trans e2).trans e3).trans e4) ?_
      rw [hb]
      exact .bl _
    · refine ⟨e2.trans e3, ⟨_, rfl⟩, ?_⟩
      rw [take_snoc gr, List.any_append, hn, List.any_cons, hc]
      rfl
  · subst es
    refine s_ret ev_c fun H4 e4 => ?_
    rw [List.length_map, List.take_length] at hn
    have hb : bearsF R room goals = false := hn
    refine q _ _ ((e1.trans e2).trans e4) ?_
    rw [hb]
    exact .bl _
/-! ### entered -/
theorem mem_rng {lo : Int} {n : Nat} {r : Int} (h : r ∈ rng lo n) : lo ≤ r ∧ r < lo + n := by
  unfold rng at h
  obtain ⟨i, hi, e⟩ := List.mem_map.mp h
  have z := List.mem_range.mp hi
  omega
theorem mem_kids {R : List Room} {room r : Int} (ha : aRoom R room) (h : r ∈ kidsF R room) : aRoom R r ∧ room < r ∧ dep R r = dep R room + 1 := by
  have hg := endF_ge ha
  obtain ⟨h0, h1, h20⟩ := ha
  obtain ⟨h2, h3⟩ := List.mem_filter.mp h
  have z := mem_rng h2
  exact ⟨⟨by omega, by omega, h20⟩, by omega, of_decide_eq_true h3⟩
theorem kids_len {R : List Room} {room : Int} (ha : aRoom R room) : (kidsF R room).length ≤ 20 := by
  have hg := endF_ge ha
  obtain ⟨h0, h1, h20⟩ := ha
  have z := List.length_filter_le (fun k => decide (dep R k = dep R room + 1)) (rng (room + 1) (endF R room - (room + 1)).toNat)
  rw [rng_len] at z
  unfold kidsF
  omega
theorem mem_entered {R : List Room} {room r : Int} {goals : List Int} (h : r ∈ enteredF R room goals) : r ∈ kidsF R room := by
  unfold enteredF at h
  split at h
  · split at h
    · rename_i k hk
      rw [List.mem_singleton] at h
      subst h
      exact List.mem_of_find?_eq_some hk
    · exact List.mem_of_mem_take h
  · exact h
theorem entered_len {R : List Room} {room : Int} {goals : List Int} (ha : aRoom R room) : (enteredF R room goals).length ≤ 20 := by
  have z := kids_len ha
  unfold enteredF
  split
  · split
    · show 1 ≤ 20
      omega
    · rw [List.length_take]
      omega
  · exact z
theorem entered_one {R : List Room} {room : Int} {goals : List Int} (h : kind R room = "one") : (enteredF R room goals).length ≤ 1 := by
  unfold enteredF
  rw [if_pos h]
  split
  · exact Nat.le_refl 1
  · rw [List.length_take]
    omega
theorem cut_take (xs : List V) : cutV xs none (some 1) = xs.take 1 := by
  unfold cutV
  rw [HT.sIx_none, show HT.sIx xs.length xs.length (some 1) = min 1 xs.length from HT.sIx_nat xs.length xs.length 1, List.drop_zero, Nat.sub_zero]
  cases xs with
  | nil => rfl
  | cons x r => 
    have e : min 1 (x :: r).length = 1 := by
      rw [List.length_cons]
      omega
    rw [e]
def spEntered (K : PySem.W.Frag) : Sp := spL K (fun x : List Room × Int × List Int => [eRooms x.1, .int x.2.1, lints x.2.2]) (fun x => aRoom x.1 x.2.1) (fun x => enteredF x.1 x.2.1 x.2.2)
theorem cal_entered (F : DefAt K mg "entered" s_entered ["rooms", "room", "goals"]) (c_kids : C8.Cal P w K mg base 2 "kids" (spKids K) []) (c_bears : C8.Cal P w K mg base 3 "bears" (spBears K) []) : C8.Cal P w K mg base 4 "entered" (spEntered K) [] := by
  refine cal_of F sc_entered (len_L fun _ => rfl) (fun f cdv A outer s H vs Q E hr h => ?_)
  obtain ⟨⟨R, room, goals⟩, hv, ha, q⟩ := h
  dsimp only at hv ha q
  obtain ⟨v, u, g, rfl, hR, hu, hg⟩ := dpa3 hv
  have eu := dp_int hu
  subst eu
  obtain ⟨h0, h1, h20⟩ := id ha
  refine ⟨_, (pss_cons (ps_set (i := 3) sc_entered.nd rfl (.inl rfl) (C8.pe_c c_kids hr (by omega) (by rfl) (pa_cons (pv 0) (pa_cons (pv 1) pa_nil))))
    (pss_cons (ps_if (pt_cmpR op_ne (pe_ix ix_tup (pe_ix ix_tup (pv 0) (pv 1) (fun _ _ => rfl)) pe_int (fun _ _ => rfl)) pe_str (nomark _)) (pss_one (ps_ret (pv 3))) pss_nil)
    (pss_cons (ps_for PassesOwn.never rfl (pi_list (pv 3)) (pg_name (i := 4) sc_entered.nd rfl (.inl rfl)) (pss_one (ps_if (pt_val (C8.pe_c c_bears hr (by omega) (by rfl) (pa_cons (pv 0) (pa_cons (pv 4) (pa_cons (pv 2) pa_nil))))) (pss_one (ps_ret (pe_lst (pa_cons (pv 4) pa_nil)))) pss_nil)))
    (pss_one (ps_ret (pe_slice sl_list (pv 3) po_none (po_some pe_int))))))), ?_⟩
  refine q_asgL (evl_call (R, room) (ead_cons (evd_var rfl hR) (ead_cons (evd_int (ev_var rfl)) ead_nil)) ha) fun p H1 np e1 hp => ?_
  dsimp only at hp
  have R1 := mv hR e1
  refine q_when (et_test (ev_neS (ev_kind (evd_var rfl R1) (ev_var rfl) h0 h1) ev_c)) (fun hc H2 e2 => ?_) fun hc H2 e2 => ?_
  · refine s_ret (ev_var rfl) fun H3 e3 => ?_
    have hk : ¬ kind R room = "one" := of_decide_eq_false (nb_t hc)
    have er : enteredF R room goals = kidsF R room := by
      unfold enteredF
      rw [if_neg hk]
    rw [er] at q
    exact q p H3 np ((e1.trans e2).trans e3) (e3 _ _ (e2 _ _ hp))
  · have hk : kind R room = "one" := of_decide_eq_true (nb_f hc)
    have er : enteredF R room goals = (match (kidsF R room).find? fun k => bearsF R k goals with
        | some k => [k]
        | none => (kidsF R room).take 1) := by
      unfold enteredF
      rw [if_pos hk]
      all_goals rfl
    refine q_forLD (evd_var rfl (dp_lints (e2 _ _ hp))) fun H3 e3 => ⟨fun i σ' H' => Ex H3 H' ∧ (∃ y, σ' = [some v, some (.int room), some g, some (.ref p), y]) ∧ ∀ k ∈ (kidsF R room).take i, bearsF R k goals = false, ⟨Ex.refl H3, ⟨_, rfl⟩, fun k hk => by
        rw [List.take_zero] at hk
        cases hk⟩, fun i σ' H' p => p.1, fun i d x σ' H' gd hx ⟨e4, ⟨y, es⟩, hn⟩ => ?_, fun σ' H' ⟨e4, ⟨y, es⟩, hn⟩ => ?_⟩
    · subst es
      obtain ⟨r, gr, rfl⟩ := get_ints gd
      have ex := dp_int hx
      subst ex
      have eH := ((e1.trans e2).trans e3).trans e4
      have hm := mem_kids ha (List.mem_of_getElem? gr)
      refine s_when (et_B (ev_bl (evd_call (R, r, goals) (ead_cons (evd_var rfl (mv hR eH)) (ead_cons (evd_int (ev_var rfl)) (ead_cons (evd_var rfl (mv hg eH)) ead_nil))) hm.1))) (fun hb H5 e5 => ?_) fun hb H5 e5 => ?_
      · dsimp only at hb
        refine s_retL (el_lst (ea_cons (ev_var rfl) ea_nil) (by show 1 ≤ 100000; omega)) fun p2 H6 np2 e6 hp2 => ?_
        have hf : (kidsF R room).find? (fun k => bearsF R k goals) = some r := by
          rw [List.find?_eq_some_iff_append]
          refine ⟨hb, (kidsF R room).take i, (kidsF R room).drop (i + 1), ?_, fun k hk => by rw [hn k hk]; rfl⟩
          have e := List.take_append_drop (i + 1) (kidsF R room)
          rw [take_snoc gr, List.append_assoc] at e
          exact e.symm
        rw [er, hf] at q
        exact q p2 H6 (fresh_back (eH.trans e5) np2) ((eH.trans e5).trans e6) hp2
      · dsimp only at hb
        refine ⟨e4.trans e5, ⟨_, rfl⟩, fun k hk => ?_⟩
        rw [take_snoc gr] at hk
        rcases List.mem_append.mp hk with hk | hk
        · exact hn k hk
        · rw [List.mem_singleton] at hk
          subst hk
          exact hb
    · subst es
      rw [List.length_map, List.take_length] at hn
      have hf : (kidsF R room).find? (fun k => bearsF R k goals) = none := by
        rw [List.find?_eq_none]
        intro k hk z
        rw [hn k hk] at z
        cases z
      rw [er, hf] at q
      have eH := ((e1.trans e2).trans e3).trans e4
      refine s_retL (el_sl (ev_var rfl) eo_none (eo_some ev_c) (SqL.of (e4 _ _ (e3 _ _ (e2 _ _ hp))))) fun p2 H6 np2 e6 hp2 => ?_
      rw [cut_take, ← List.map_take] at hp2
      exact q p2 H6 (fresh_back eH np2) (eH.trans e6) hp2
/-! ### goings_in -/
theorem flat_len {α β : Type} {f : α → List β} {b : Nat} : ∀ {l : List α}, (∀ x ∈ l, (f x).length ≤ b) → (l.flatMap f).length ≤ l.length * b
  | [], _ => Nat.zero_le _
  | x :: l, h => by
    rw [List.flatMap_cons, List.length_append, List.length_cons, Nat.add_mul, Nat.one_mul]
    have h1 := h x List.mem_cons_self
    have h2 := flat_len (l := l) fun y hy => h y (List.mem_cons_of_mem _ hy)
    omega
theorem flat_take {α β : Type} (f : α → List β) (l : List α) (i : Nat) : ((l.take i).flatMap f).length ≤ (l.flatMap f).length := by
  have e : ((l.take i ++ l.drop i).flatMap f).length = (l.flatMap f).length := by rw [List.take_append_drop]
  rw [List.flatMap_append, List.length_append] at e
  omega
theorem aRoom_of {R : List Room} (ok : RoomsOk R) {r : Int} (h0 : 0 ≤ r) (h1 : r < R.length) : aRoom R r := ⟨h0, h1, ok.most⟩
theorem goIn_eq {R : List Room} (ok : RoomsOk R) {goals : List Int} {u : Int} (ha : aRoom R u) : goIn R goals u = (enteredF R u goals).flatMap fun k => k :: goIn R goals k := by
  have hd := ok.depth u ha.1 ha.2.1
  unfold goIn
  obtain ⟨f, hf⟩ : ∃ f, (4 - dep R u).toNat = f + 1 := ⟨(4 - dep R u).toNat - 1, by omega⟩
  rw [hf]
  show (enteredF R u goals).flatMap (fun k => k :: goGo R goals f k) = _
  refine flat_congr fun k hk => ?_
  have hm := (mem_kids ha (mem_entered hk)).2.2
  rw [show (4 - dep R k).toNat = f by omega]
theorem goIn_len3 {R : List Room} (ok : RoomsOk R) {goals : List Int} {u : Int} (ha : aRoom R u) (h : dep R u = 3) : (goIn R goals u).length ≤ 0 := by
  rw [goIn_eq ok ha]
  have e : enteredF R u goals = [] := by
    refine List.eq_nil_iff_forall_not_mem.mpr fun k hk => ?_
    have hm := mem_kids ha (mem_entered hk)
    have hd := ok.depth k hm.1.1 hm.1.2.1
    omega
  rw [e]
  exact Nat.le_refl 0
theorem goIn_len2 {R : List Room} (ok : RoomsOk R) {goals : List Int} {u : Int} (ha : aRoom R u) (h : dep R u = 2) : (goIn R goals u).length ≤ 1 := by
  rw [goIn_eq ok ha]
  have z := flat_len (f := fun k => k :: goIn R goals k) (b := 1) (l := enteredF R u goals) fun k hk => by
    have hm := mem_kids ha (mem_entered hk)
    have y := goIn_len3 ok (goals := goals) hm.1 (by omega)
    show (goIn R goals k).length + 1 ≤ 1
    omega
  have o := entered_one (goals := goals) (ok.one u ha.1 ha.2.1 (.inr h))
  omega
theorem goIn_len1 {R : List Room} (ok : RoomsOk R) {goals : List Int} {u : Int} (ha : aRoom R u) (h : dep R u = 1) : (goIn R goals u).length ≤ 40 := by
  rw [goIn_eq ok ha]
  have z := flat_len (f := fun k => k :: goIn R goals k) (b := 2) (l := enteredF R u goals) fun k hk => by
    have hm := mem_kids ha (mem_entered hk)
    have y := goIn_len2 ok (goals := goals) hm.1 (by omega)
    show (goIn R goals k).length + 1 ≤ 2
    omega
  have o := entered_len (goals := goals) ha
  omega
theorem goIn_len {R : List Room} (ok : RoomsOk R) {goals : List Int} {u : Int} (ha : aRoom R u) : (goIn R goals u).length ≤ 41 := by
  have hd := ok.depth u ha.1 ha.2.1
  rcases (by omega : dep R u = 0 ∨ dep R u = 1 ∨ dep R u = 2 ∨ dep R u = 3) with h | h | h | h
  · rw [goIn_eq ok ha]
    have z := flat_len (f := fun k => k :: goIn R goals k) (b := 41) (l := enteredF R u goals) fun k hk => by
      have hm := mem_kids ha (mem_entered hk)
      have y := goIn_len1 ok (goals := goals) hm.1 (by omega)
      show (goIn R goals k).length + 1 ≤ 41
      omega
    have o := entered_one (goals := goals) (ok.one u ha.1 ha.2.1 (.inl h))
    omega
  · have y := goIn_len1 ok (goals := goals) ha h
    omega
  · have y := goIn_len2 ok (goals := goals) ha h
    omega
  · have y := goIn_len3 ok (goals := goals) ha h
    omega
def goNeed (R : List Room) : Option Int → Nat
  | none => 5
  | some u => (4 - dep R u).toNat
def goOk (n : Nat) (R : List Room) (under : Option Int) : Prop := RoomsOk R ∧ (∀ u, under = some u → aRoom R u) ∧ goNeed R under ≤ n
def spGo (K : PySem.W.Frag) (n : Nat) : Sp := spL K (fun x : List Room × Option Int × List Int => [eRooms x.1, optD x.2.1, lints x.2.2]) (fun x => goOk n x.1 x.2.1) (fun x => goingsF x.1 x.2.1 x.2.2)
theorem goNeed_pos {n : Nat} {R : List Room} {under : Option Int} (h : goOk n R under) : 1 ≤ goNeed R under := by
  obtain ⟨ok, hu, _⟩ := h
  cases under with
  | none =>
    show 1 ≤ 5
    omega
  | some u =>
    have ha := hu u rfl
    have hd := ok.depth u ha.1 ha.2.1
    show 1 ≤ (4 - dep R u).toNat
    omega
theorem cal_goings_in (F : DefAt K mg "goings_in" s_goings_in ["rooms", "under", "goals"]) (c_entered : C8.Cal P w K mg base 4 "entered" (spEntered K) []) : ∀ n : Nat, C8.Cal P w K mg base (4 + n) "goings_in" (spGo K n) []
  | 0 => by
    obtain ⟨f, fd, F, hm, b⟩ := F.ex
    have no : ∀ vs H Q E, ¬ spGo K 0 vs H Q E := fun vs H Q E ⟨x, _, c, _⟩ => by
      have z := goNeed_pos c
      have z2 := c.2.2
      omega
    exact ⟨f, fd, ["rooms", "under", "goals"], [], ⟨fun vs H Q E h => absurd h (no vs H Q E), fun A outer s H args us vs Q E _ _ _ _ h => absurd h (no vs H Q E)⟩, hm, F.kp, b, .nil⟩
  | n + 1 => by
    have c_goings_in := cal_goings_in F c_entered n
    refine cal_of F sc_goings_in (len_L fun _ => rfl) (fun f cdv A outer s H vs Q E hr h => ?_)
    replace hr : L2.Room (4 + n) _ := hr
    obtain ⟨⟨R, under, goals⟩, hv, hok, q⟩ := h
    dsimp only at hv hok q
    obtain ⟨v, u, g, rfl, hR, hu, hg⟩ := dpa3 hv
    have eu := dp_opt hu
    subst eu
    obtain ⟨ok, hun, hneed⟩ := hok
    refine ⟨_, (pss_cons (ps_if (pt_cmpR op_isN (pv 1) pe_non (nomark _)) (pss_one (ps_ret (pe_op op_cat (pe_lst (pa_cons pe_int pa_nil)) (C8.pe_c c_goings_in hr (by omega) (by rfl) (pa_cons (pv 0) (pa_cons pe_int (pa_cons (pv 2) pa_nil))))))) pss_nil)
    (pss_cons (ps_set (i := 3) sc_goings_in.nd rfl (.inl rfl) (pe_lst pa_nil))
    (pss_cons (ps_for PassesOwn.never rfl (pi_list (C8.pe_c c_entered hr (by omega) (by rfl) (pa_cons (pv 0) (pa_cons (pv 1) (pa_cons (pv 2) pa_nil))))) (pg_name (i := 4) sc_goings_in.nd rfl (.inl rfl)) (pss_cons (ps_expr (pe_bm PySem.F.plainAttrs_list PySem.F.slot_list_append PySem.F.type_list_append mt_append (pv 3) (pa_cons (pv 4) pa_nil)))
    (pss_one (ps_expr (pe_bm PySem.F.plainAttrs_list PySem.F.slot_list_extend PySem.F.type_list_extend mt_extend (pv 3) (pa_cons (C8.pe_c c_goings_in hr (by omega) (by rfl) (pa_cons (pv 0) (pa_cons (pv 4) (pa_cons (pv 2) pa_nil)))) pa_nil))))))
    (pss_one (ps_ret (pv 3)))))), ?_⟩
    refine q_when (et_test (ev_isN (ev_var rfl))) (fun hc H1 e1 => ?_) fun hc H1 e1 => ?_
    · -- under is None
      obtain rfl : under = none := Option.isNone_iff_eq_none.mp hc
      have a0 : aRoom R 0 := aRoom_of ok (Int.le_refl 0) (by have := ok.pos; omega)
      have hz : goOk n R (some 0) := ⟨ok, fun u e => by
        have e2 := Option.some.inj e
        subst e2
        exact a0, by
          show (4 - dep R 0).toNat ≤ n
          have z : 5 ≤ n + 1 := hneed
          rw [ok.dep0]
          omega⟩
      have y := goIn_len ok (goals := goals) a0
      refine s_retL (el_cat (el_lst (ea_cons ev_c ea_nil) (by show 1 ≤ 100000; omega)) (evl_call (R, some 0, goals) (ead_cons (evd_var rfl (mv hR e1)) (ead_cons (evd_int ev_c) (ead_cons (evd_var rfl (mv hg e1)) ead_nil))) hz) ?_) fun p3 H3 np3 e3 hp3 => ?_
      · rw [List.length_map]
        show 1 + (goIn R goals 0).length ≤ 100000
        omega
      · exact q p3 H3 (fresh_back e1 np3) (e1.trans e3) hp3
    · obtain ⟨u, rfl⟩ : ∃ u, under = some u := by
        cases under with
        | none => cases hc
        | some u => exact ⟨u, rfl⟩
      have ha := hun u rfl
      refine q_asgL (el_lst ea_nil (Nat.zero_le _)) fun p H2 np e2 hp => ?_
      have eH := e1.trans e2
      have np0 := fresh_back e1 np
      have eIt : EvL (tCall (spEntered K) [] E0 (tCons (tVar 0) (tCons (tVar 1) (tCons (tVar 2) tNil)))) [some v, some (.int u), some g, some (.ref p), none] H2 ((enteredF R u goals).map V.int) :=
        evl_call (R, u, goals) (ead_cons (evd_var rfl (mv hR eH)) (ead_cons (evd_int (ev_var rfl)) (ead_cons (evd_var rfl (mv hg eH)) ead_nil))) ha
      have hlen := goIn_len ok (goals := goals) ha
      rw [goIn_eq ok ha] at hlen
      refine q_forNLn eIt (fun t i σ' H' => Ex H H' ∧ (∃ y, σ' = [some v, some (.int u), some g, some (.ref p), y]) ∧ H' t = some (.lst ((enteredF R u goals).map V.int)) ∧ t ≠ p ∧ H' p = some (.lst ((((enteredF R u goals).take i).flatMap fun k => k :: goIn R goals k).map V.int)))
        (fun t H3 nt e3 ht => ⟨eH.trans e3, ⟨_, rfl⟩, ht, fun e => ?_, ?_⟩) (fun t i σ' H' _ p => SqL.of p.2.2.1) (fun t i x σ' H' gx ⟨e3, ⟨y, es⟩, ht, hne, hl⟩ => ?_) fun t σ' H' ⟨e3, ⟨y, es⟩, ht, hne, hl⟩ => ?_
      · subst e
        rw [hp] at nt
        cases nt
      · rw [e3 _ _ hp, List.take_zero]
        rfl
      · subst es
        obtain ⟨r, gr, rfl⟩ : ∃ r, (enteredF R u goals)[i]? = some r ∧ x = .int r := by
          rw [List.getElem?_map] at gx
          cases c : (enteredF R u goals)[i]? with
          | none =>
            rw [c] at gx
            cases gx
          | some r =>
            rw [c] at gx
            exact ⟨r, rfl, (Option.some.inj gx).symm⟩
        have hm := mem_kids ha (mem_entered (List.mem_of_getElem? gr))
        have ht1 := flat_take (fun k => k :: goIn R goals k) (enteredF R u goals) i
        have ht2 := flat_take (fun k => k :: goIn R goals k) (enteredF R u goals) (i + 1)
        rw [take_snoc gr, List.flatMap_append, List.length_append, List.flatMap_singleton, List.length_cons] at ht2
        refine q_app hl (ev_var rfl) (ev_var rfl) (by rw [List.length_map]; omega) fun H4 e4 => ?_
        have e5 := (e3.trans e4).mut (o := .lst ((((enteredF R u goals).take i).flatMap fun k => k :: goIn R goals k).map V.int ++ [.int r])) np0
        have hneed2 : (4 - dep R u).toNat ≤ n + 1 := hneed
        have hd := ok.depth r hm.1.1 hm.1.2.1
        have hz : goOk n R (some r) := ⟨ok, fun b e => by
          have e2 := Option.some.inj e
          subst e2
          exact hm.1, by
            show (4 - dep R r).toNat ≤ n
            omega⟩
        refine s_extL upd_same (ev_var rfl) (evl_call (R, some r, goals) (ead_cons (evd_var rfl (mv hR e5)) (ead_cons (evd_int (ev_var rfl)) (ead_cons (evd_var rfl (mv hg e5)) ead_nil))) hz) ?_ fun H6 e6 => ?_
        · rw [List.length_append, List.length_map, List.length_map]
          show _ + 1 + (goIn R goals r).length ≤ 100000
          omega
        · refine ⟨(e5.trans e6).mut np0, ⟨_, rfl⟩, ?_, hne, ?_⟩
          · rw [upd_ne hne]
            refine e6 _ _ ?_
            rw [upd_ne hne]
            exact e4 _ _ ht
          · rw [upd_same, take_snoc gr, List.flatMap_append, List.flatMap_singleton, List.map_append, List.map_cons, List.append_assoc]
            rfl
      · subst es
        rw [List.length_map, List.take_length] at hl
        refine s_ret (ev_var rfl) fun H4 e4 => ?_
        have er : goingsF R (some u) goals = (enteredF R u goals).flatMap fun k => k :: goIn R goals k := goIn_eq ok ha
        rw [er] at q
        exact q p H4 np0 (e3.trans e4) (e4 _ _ hl)
/-! ### goings_out -/
def outOk (R : List Room) (under : Option Int) (opening : List Int) : Prop := (∀ u, under = some u → aRoom R u) ∧ opening.length ≤ 40000
def spOut (K : PySem.W.Frag) : Sp := spL K (fun x : List Room × Option Int × List Int => [eRooms x.1, optD x.2.1, eInts x.2.2]) (fun x => outOk x.1 x.2.1 x.2.2) (fun x => leftF x.1 x.2.1 x.2.2)
theorem cal_goings_out (T : Txt mg) (F : DefAt K mg "goings_out" s_goings_out ["rooms", "under", "opening"]) (c_lies_in : C8.Cal P w K mg base 2 "lies_in" (spLies K) []) : C8.Cal P w K mg base 3 "goings_out" (spOut K) [] := by
  refine cal_of F sc_goings_out (len_L fun _ => rfl) (fun f cdv A outer s H vs Q E hr h => ?_)
  obtain ⟨⟨R, under, opening⟩, hv, ha, q⟩ := h
  dsimp only at hv ha q
  obtain ⟨v, u, g, rfl, hR, hu, hg⟩ := dpa3 hv
  have eu := dp_opt hu
  subst eu
  obtain ⟨hun, hlen⟩ := ha
  refine ⟨_, (pss_cons (ps_set (i := 3) sc_goings_out.nd rfl (.inl rfl) (pe_lst pa_nil))
    (pss_cons (ps_for PassesOwn.never rfl (RT.pi_revA (by rfl) T.m_reversed (pv 2)) (pg_name (i := 4) sc_goings_out.nd rfl (.inl rfl)) (pss_one (ps_if (PW.pt (pw_or (pt_cmpR op_isN (pv 1) pe_non (nomark _)) (pw_or1 (pt_val (C8.pe_c c_lies_in hr (by omega) (by rfl) (pa_cons (pv 0) (pa_cons (pv 4) (pa_cons (pv 1) pa_nil)))))))) (pss_one (ps_expr (pe_bm PySem.F.plainAttrs_list PySem.F.slot_list_append PySem.F.type_list_append mt_append (pv 3) (pa_cons (pv 4) pa_nil)))) pss_nil)))
    (pss_one (ps_ret (pv 3))))), ?_⟩
  refine q_asgL (el_lst ea_nil (Nat.zero_le _)) fun p H1 np e1 hp => ?_
  refine q_forRev (evd_var rfl (mv hg e1)) (nol_ints opening) fun H2 e2 => ⟨fun i σ' H' => Ex H H' ∧ TK H2 H' ∧ (∃ y, σ' = [some v, some (optV under), some g, some (.ref p), y]) ∧ H' p = some (.lst (((opening.reverse.take i).filter (outF R under)).map V.int)), ⟨e1.trans e2, TK.refl H2, ⟨_, rfl⟩, ?_⟩, fun i σ' H' p => p.2.1, fun i d x σ' H' gd hx ⟨e3, t3, ⟨y, es⟩, hl⟩ => ?_, fun σ' H' ⟨e3, t3, ⟨y, es⟩, hl⟩ => ?_⟩
  · rw [e2 _ _ hp, List.take_zero]
    rfl
  · subst es
    rw [← List.map_reverse] at gd
    obtain ⟨r, gr, rfl⟩ := get_ints gd
    have ex := dp_int hx
    subst ex
    have R2 := mv hR e3
    have key : EvT (tOr (tTest (tOp (fun x y H Q => y = .non ∧ Q (.bl (decide (x = .non))) H) (tVar 1) (tC .non))) (tB (tCall (spLies K) [] E0 (tCons (tVar 0) (tCons (tVar 4) (tCons (tVar 1) tNil))))))
        [some v, some (optV under), some g, some (.ref p), some (.int r)] H' (outF R under r) := by
      cases under with
      | none => exact et_is (et_or (b := false) (et_test (ev_isN (o := none) (ev_var rfl))) fun z => by cases z) rfl
      | some u => exact et_is (et_or (et_test (ev_isN (o := some u) (ev_var rfl))) fun _ => et_B (et_lies (evd_var rfl R2) (ev_var rfl) (ev_var rfl) (hun u rfl))) rfl
    refine s_when key (fun hc H4 e4 => ?_) fun hc H4 e4 => ?_
    · refine s_app (e4 _ _ hl) (ev_var rfl) (ev_var rfl) ?_ fun H5 e5 => ?_
      · rw [List.length_map]
        have z := List.length_filter_le (outF R under) (opening.reverse.take i)
        rw [List.length_take, List.length_reverse] at z
        omega
      · refine ⟨((e3.trans e4).trans e5).mut np, (t3.trans (tk_ex (e4.trans e5))).trans (tk_upd (e5 _ _ (e4 _ _ hl)) trivial), ⟨_, rfl⟩, ?_⟩
        rw [upd_same, take_snoc gr, List.filter_append, List.map_append, List.filter_cons_of_pos hc, List.filter_nil]
        rfl
    · refine ⟨e3.trans e4, t3.trans (tk_ex e4), ⟨_, rfl⟩, ?_⟩
      rw [take_snoc gr, List.filter_append, List.map_append, List.filter_cons_of_neg (by rw [hc]; exact Bool.false_ne_true), List.filter_nil, List.map_nil, List.append_nil]
      exact e4 _ _ hl
  · subst es
    refine s_ret (ev_var rfl) fun H4 e4 => ?_
    have z : (opening.map PyData.int).length = opening.reverse.length := by rw [List.length_map, List.length_reverse]
    rw [z, List.take_length] at hl
    exact q p H4 np (e3.trans e4) (e4 _ _ hl)
end
end Nh
/-! NhKeep: plain_rooms, kept_of, keeping. -/
namespace Nh
open PySem PySem.Spec PyProof.Rows L2 Evl
section
variable {P : Program} {w : World} {K : PySem.W.Frag} {mg : Str → Option Value} {base : Heap}
def inAll (R : List Room) (ns : List Int) : Prop := ∀ r ∈ ns, 0 ≤ r ∧ r < R.length
def plOk (R : List Room) (ns : List Int) : Prop := inAll R ns ∧ ns.length ≤ 40000
def spPlain (K : PySem.W.Frag) : Sp := spL K (fun x : List Room × List Int => [eRooms x.1, eInts x.2]) (fun x => plOk x.1 x.2) (fun x => plainF x.1 x.2)
theorem cal_plain_rooms (F : DefAt K mg "plain_rooms" s_plain_rooms ["rooms", "some"]) : C8.Cal P w K mg base 1 "plain_rooms" (spPlain K) [] := by
  refine cal_of F sc_plain_rooms (len_L fun _ => rfl) (fun f cdv A outer s H vs Q E hr h => ?_)
  obtain ⟨⟨R, ns⟩, hv, ha, q⟩ := h
  dsimp only at hv ha q
  obtain ⟨v, g, rfl, hR, hg⟩ := dpa2 hv
  refine ⟨_, (pss_one (ps_ret (pe_lc (own := [("room", 2)]) (g := gName 2) (by rfl) sc_plain_rooms.nd (pi_tup (pv 1)) (blkOk_by (own := [("room", 2)]) (N := N_plain_rooms) (sc := defScope s_plain_rooms) (by decide +kernel)) (fun _ _ _ _ _ => pg_name (i := 2) sc_plain_rooms.nd rfl (.inl rfl)) (fun _ _ _ _ _ => (pts_one (pt_cmpR op_eq (pe_ix (r := rIxT K) ix_tup (pe_ix (r := rIxT K) ix_tup (pv 0) (pv 2) (fun _ _ => rfl)) pe_int (fun _ _ => rfl)) pe_str (nomark _)))) (fun _ _ _ _ _ => (pv 2))))), ?_⟩
  refine s_retL (el_lcT (fun r => decide (kind R r = "plain")) V.int (evd_var rfl hg) ha.2 (fun x => rfl) (fun r H1 e1 hr1 => et_test (ev_eqS (ev_kind (evd_var rfl (mv hR e1)) (ev_var rfl) (ha.1 r hr1).1 (ha.1 r hr1).2) ev_c)) (fun r H1 e1 _ _ => ev_var rfl)) fun p H1 np e1 hp => ?_
  exact q p H1 np e1 hp
/-! ### kept_of -/
structure KeepArg where
  rooms : List Room
  opening : List Int
  room : Int
  before : List Int
def KeepArg.ok (x : KeepArg) : Prop := RoomsOk x.rooms ∧ plOk x.rooms x.opening ∧ 0 ≤ x.room ∧ x.room < x.rooms.length
def spKept (K : PySem.W.Frag) : Sp := spD K (fun x : KeepArg => [eRooms x.rooms, eInts x.opening, .int x.room, eInts x.before]) KeepArg.ok (fun x => eInts (keptF x.rooms x.opening x.room x.before))
theorem cal_kept_of (T : Txt mg) (F : DefAt K mg "kept_of" s_kept_of ["rooms", "opening", "room", "before"]) (c_plain_rooms : C8.Cal P w K mg base 1 "plain_rooms" (spPlain K) []) (c_lies_in : C8.Cal P w K mg base 2 "lies_in" (spLies K) []) :
    C8.Cal P w K mg base 3 "kept_of" (spKept K) [] := by
  refine cal_of F sc_kept_of (len_D fun _ => rfl) (fun f cdv A outer s H vs Q E hr h => ?_)
  obtain ⟨⟨R, opening, room, before⟩, hv, ha, q⟩ := h
  dsimp only at hv q
  obtain ⟨ok, hpl, h0, h1⟩ := ha
  dsimp only at ok hpl h0 h1
  obtain ⟨v, g, u, b, rfl, hR, hg, hu, hb⟩ := dpa4 hv
  have eu := dp_int hu
  subst eu
  have ha : aRoom R room := aRoom_of ok h0 h1
  have hk := ok.keep room h0 h1
  refine ⟨_, (pss_cons (ps_if (pt_cmpR op_eq (pe_ix ix_tup (pe_ix ix_tup (pv 0) (pv 2) (fun _ _ => rfl)) pe_int (fun _ _ => rfl)) pe_str (nomark _)) pss_never pss_nil)
    (pss_cons (ps_if (pt_cmpR op_eq (pe_ix ix_tup (pe_ix ix_tup (pv 0) (pv 2) (fun _ _ => rfl)) pe_int (fun _ _ => rfl)) pe_str (nomark _)) (pss_one (ps_ret (pe_callTy call_tuple_of (by rfl) T.m_tuple (by decide +kernel) (pa_cons (pe_lc (own := [("r", 4)]) (g := gName 4) (by rfl) sc_kept_of.nd (pi_list (C8.pe_c c_plain_rooms hr (by omega) (by rfl) (pa_cons (pv 0) (pa_cons (pv 1) pa_nil)))) (blkOk_by (own := [("r", 4)]) (N := N_kept_of) (sc := defScope s_kept_of) (by decide +kernel)) (fun _ _ _ _ _ => pg_name (i := 4) sc_kept_of.nd rfl (.inl rfl)) (fun _ _ _ _ _ => (pts_one (pt_val (C8.pe_c c_lies_in hr (by omega) (by rfl) (pa_cons (pv 0) (pa_cons (pv 4) (pa_cons (pv 2) pa_nil))))))) (fun _ _ _ _ _ => (pv 4))) pa_nil)))) pss_nil)
    (pss_one (ps_ret (pv 3))))), ?_⟩
  refine q_when (et_test (ev_eqS (ev_keeps (evd_var rfl hR) (ev_var rfl) h0 h1) ev_c)) (fun hc H1 e1 => ?_) fun hc H1 e1 => ?_
  · exfalso
    have z := of_decide_eq_true hc
    rcases hk with hk | hk
    · rw [hk] at z
      exact absurd z (by decide +kernel)
    · rw [hk] at z
      exact absurd z (by decide +kernel)
  · have R1 := mv hR e1
    refine q_when (et_test (ev_eqS (ev_keeps (evd_var rfl R1) (ev_var rfl) h0 h1) ev_c)) (fun hd H2 e2 => ?_) fun hd H2 e2 => ?_
    · have eH := e1.trans e2
      refine s_retD (evd_tupL (evd_ofL (ns := (plainF R opening).filter fun r => liesF R r room) (el_lcLI (fun r => liesF R r room) V.int (evd_ofL (evl_call (R, opening) (ead_cons (evd_var rfl (mv hR eH)) (ead_cons (evd_var rfl (mv hg eH)) ead_nil)) hpl)) ?_ (fun x => rfl)
        (fun r H3 e3 _ => et_B (et_lies (evd_var rfl (mv hR (eH.trans e3))) (ev_var rfl) (ev_var rfl) ha)) (fun r H3 e3 _ _ => ev_var rfl)))) fun v3 H3 e3 hd3 => ?_
      · have z := List.length_filter_le (fun r => decide (kind R r = "plain")) opening
        have z2 := hpl.2
        show (plainF R opening).length ≤ 40000
        unfold plainF
        omega
      · refine q v3 H3 (eH.trans e3) ?_
        have er : keptF R opening room before = (plainF R opening).filter fun r => liesF R r room := by
          unfold keptF
          rw [if_pos (of_decide_eq_true hd)]
        rw [er]
        exact hd3
    · refine s_ret (ev_var rfl) fun H3 e3 => ?_
      have eH := (e1.trans e2).trans e3
      refine q b H3 eH ?_
      have er : keptF R opening room before = before := by
        unfold keptF
        rw [if_neg (of_decide_eq_false hd)]
      rw [er]
      exact mv hb eH
/-! ### keeping -/
structure KeepsArg where
  rooms : List Room
  opening : List Int
  left : List Int
  kept : List (List Int)
def KeepsArg.ok (x : KeepsArg) : Prop := RoomsOk x.rooms ∧ plOk x.rooms x.opening ∧ x.kept.length = x.rooms.length
def spKeeping (K : PySem.W.Frag) : Sp := spD K (fun x : KeepsArg => [eRooms x.rooms, eInts x.opening, lints x.left, eKept x.kept]) KeepsArg.ok (fun x => eKept (keepingF x.rooms x.opening x.left x.kept))
theorem map_range_succ {α : Type} (f : Nat → α) (n : Nat) : (List.range (n + 1)).map f = (List.range n).map f ++ [f n] := by
  rw [List.range_succ, List.map_append]
  rfl
theorem cal_keeping (T : Txt mg) (F : DefAt K mg "keeping" s_keeping ["rooms", "opening", "left", "kept"]) (c_kept_of : C8.Cal P w K mg base 3 "kept_of" (spKept K) []) : C8.Cal P w K mg base 4 "keeping" (spKeeping K) [] := by
  refine cal_of F sc_keeping (len_D fun _ => rfl) (fun f cdv A outer s H vs Q E hr h => ?_)
  obtain ⟨⟨R, opening, left, kept⟩, hv, ha, q⟩ := h
  dsimp only at hv q
  obtain ⟨ok, hpl, hkl⟩ := ha
  dsimp only at ok hpl hkl
  obtain ⟨v, g, u, b, rfl, hR, hg, hu, hb⟩ := dpa4 hv
  have hmost := ok.most
  refine ⟨_, (pss_cons (ps_set (i := 4) sc_keeping.nd rfl (.inl rfl) (pe_lst pa_nil))
    (pss_cons (ps_for PassesOwn.never rfl (pi_range1 (by rfl) T.m_range (pa_cons (pe_callB call_len_seq (by rfl) T.m_len (by decide +kernel) (pa_cons (pv 0) pa_nil)) pa_nil)) (pg_name (i := 5) sc_keeping.nd rfl (.inl rfl)) (pss_one (ps_if (pt_cmpR op_in_seq (pv 5) (pv 2) (by rfl)) (pss_one (ps_expr (pe_bm PySem.F.plainAttrs_list PySem.F.slot_list_append PySem.F.type_list_append mt_append (pv 4) (pa_cons (C8.pe_c c_kept_of hr (by omega) (by rfl) (pa_cons (pv 0) (pa_cons (pv 1) (pa_cons (pv 5) (pa_cons (pe_ix ix_tup (pv 3) (pv 5) (fun _ _ => rfl)) pa_nil))))) pa_nil)))) (pss_one (ps_expr (pe_bm PySem.F.plainAttrs_list PySem.F.slot_list_append PySem.F.type_list_append mt_append (pv 4) (pa_cons (pe_ix ix_tup (pv 3) (pv 5) (fun _ _ => rfl)) pa_nil)))))))
    (pss_one (ps_ret (pe_callTy call_tuple_of (by rfl) T.m_tuple (by decide +kernel) (pa_cons (pv 4) pa_nil)))))), ?_⟩
  refine q_asgL (el_lst ea_nil (Nat.zero_le _)) fun p H1 np e1 hp => ?_
  have hn : ((R.map eRoom).length : Int) = (R.length : Int) := by rw [List.length_map]
  refine q_forR1 (ea_cons (ev_lenT (ds := R.map eRoom) (evd_var rfl (mv hR e1))) ea_nil) (by omega)
    (fun i σ' H' => Ex H H' ∧ (∃ y, σ' = [some v, some g, some u, some b, some (.ref p), y]) ∧ ∃ xs, H' p = some (.lst xs) ∧ DpAll K H' xs (((List.range i).map fun (i : Nat) => if (i : Int) ∈ left then keptF R opening (i : Int) (rowAt kept (i : Int)) else rowAt kept (i : Int)).map eInts))
    (fun H2 e2 => ⟨e1.trans e2, ⟨_, rfl⟩, [], e2 _ _ hp, .nil⟩) (fun i σ' H' hi ⟨e, ⟨y, es⟩, xs, hl, hx⟩ => ?_) fun σ' H' ⟨e, ⟨y, es⟩, xs, hl, hx⟩ => ?_
  · subst es
    rw [hn] at hi
    have hxl := dpa_len hx
    rw [List.length_map, List.length_map, List.length_range] at hxl
    -- what is put behind the list
    have fin : ∀ (z : List Int) (x : V) (H2 : Hp), Ex H' H2 → Dp K H2 x (eInts z) → z = (if (i : Int) ∈ left then keptF R opening (i : Int) (rowAt kept (i : Int)) else rowAt kept (i : Int)) →
        Ex H (upd H2 p (.lst (xs ++ [x]))) ∧ (∃ y, [some v, some g, some u, some b, some (.ref p), some (.int (i : Int))] = [some v, some g, some u, some b, some (.ref p), y]) ∧ ∃ ys, upd H2 p (.lst (xs ++ [x])) p = some (.lst ys) ∧
          DpAll K (upd H2 p (.lst (xs ++ [x]))) ys (((List.range (i + 1)).map fun (i : Nat) => if (i : Int) ∈ left then keptF R opening (i : Int) (rowAt kept (i : Int)) else rowAt kept (i : Int)).map eInts) := fun z x H2 e2 hz ez => by
      have t : TK H2 (upd H2 p (.lst (xs ++ [x]))) := tk_upd (e2 _ _ hl) trivial
      refine ⟨(e.trans e2).mut np, ⟨_, rfl⟩, xs ++ [x], upd_same, ?_⟩
      rw [map_range_succ, List.map_append]
      refine dpa_app (dpa_tk t _ _ (nol_map nol_eInts _) (mva hx e2)) (.cons ?_ .nil)
      rw [← ez]
      exact mt hz t (nol_eInts z)
    have R2 := mv hR e
    refine s_if (et_test (ev_inL (ev_var rfl) (evd_var rfl (mv hu e)))) (fun hc H2 e2 => ?_) fun hc H2 e2 => ?_
    · have hm : (i : Int) ∈ left := of_decide_eq_true hc
      have eH := e.trans e2
      refine s_appD (e2 _ _ hl) (ev_var rfl) (evd_call (⟨R, opening, (i : Int), rowAt kept (i : Int)⟩ : KeepArg) (ead_cons (evd_var rfl (mv hR eH)) (ead_cons (evd_var rfl (mv hg eH)) (ead_cons (evd_int (ev_var rfl)) (ead_cons (evd_ix (evd_var rfl (mv hb eH)) (ev_var rfl) (at_row (by omega) (by omega))) ead_nil)))) ⟨ok, hpl, by show (0 : Int) ≤ (i : Int); omega, hi⟩) (by omega) fun x H3 e3 hx3 => ?_
      refine fin _ x H3 (e2.trans e3) hx3 ?_
      rw [if_pos hm]
    · have hm : ¬ (i : Int) ∈ left := of_decide_eq_false hc
      have eH := e.trans e2
      refine s_appD (e2 _ _ hl) (ev_var rfl) (evd_ix (evd_var rfl (mv hb eH)) (ev_var rfl) (at_row (k := kept) (by omega) (by omega))) (by omega) fun x H3 e3 hx3 => ?_
      refine fin _ x H3 (e2.trans e3) hx3 ?_
      rw [if_neg hm]
  · subst es
    have en : ((R.map eRoom).length : Int).toNat = R.length := by rw [hn]; omega
    rw [en] at hx
    refine s_retD (evd_tupL (evd_var rfl (.lst (SqL.of hl) hx))) fun v3 H3 e3 hd3 => ?_
    exact q v3 H3 (e.trans e3) hd3
end
end Nh
/-! NhEnum: for i, x in enumerate(a tuple), which the layer has for lists alone. -/
namespace Nh
open PySem PySem.Spec PyProof.Rows L2 Evl
/-! ### the call, over anything that begins -/
set_option maxHeartbeats 1000000 in
theorem enum_new1 {v : Value} {ob : Obj} {G : Heap → Prop} (B : Begins v ob G) :
    Meets (Builtin.«enumerate.__new__» ⟨[.type "enumerate", v], []⟩)
      (fun _ R s => G s.heap ∧
        R (.ok (.ret (.ref (s.heap.push ob).objs.size)))
          { s with heap := (s.heap.push ob).push { cls := .type "enumerate", data := .fields #[.none, .bool false, .ref s.heap.objs.size, rawInt 0, .none, .none] } }) :=
  .of_wp fun prog w A R s hh => by
    obtain ⟨hp, g, d, tk, os⟩ := s
    obtain ⟨g1, hh⟩ := hh
    have subs := sub_enumerate
    have go : ∀ {A' : Around} {E' : Value → Shared → Prop} {Q' : Value → Shared → Prop},
        Q' (.ref hp.objs.size) ⟨hp.push ob, g, d, tk, os⟩ →
        wpAny (model prog w) A' (pyIter v) Q' E' ⟨hp, g, d, tk, os⟩ := fun z => B.iter prog w _ _ ⟨hp, g, d, tk, os⟩ _ g1 z
    wp_walk using go
    refine wpAny_stack_any fun _ => wpAny_pure ?_
    split
    · rename_i cc _ _ _ _ _
      cases (cc == Value.type "enumerate")
      · wp_walk using go
        exact ⟨_, rfl, hh⟩
      · wp_walk using go
        exact ⟨_, rfl, hh⟩
    · wp_walk using go
      exact ⟨_, rfl, hh⟩
theorem enum_call1 {prog : Program} {w : World} {A : Around} {E : Value → Shared → Prop} {s : Shared} {v : Value} {ob : Obj} {G : Heap → Prop} {Q : Value → Shared → Prop}
    (B : Begins v ob G) (g1 : G s.heap)
    (k : ∀ hn, IsEnum hn (s.heap.objs.size + 1) s.heap.objs.size 0 .none → hn.get? s.heap.objs.size = some ob →
      (∀ b o, s.heap.get? b = some o → hn.get? b = some o) → Q (.ref (s.heap.objs.size + 1)) { s with heap := hn }) :
    wpAny (model prog w) A (call (.type "enumerate") [v]) Q E s := by
  refine callType_new F.called_enumerate (by decide) (F.typeCall_enumerate_1 _) (F.newCall_enumerate_1 _) (fun obj => F.args_object_init_2 obj _)
    F.entry_enumerate_new (enum_new1 B) ⟨g1, ?_⟩
  have sz : (s.heap.push ob).objs.size = s.heap.objs.size + 1 := Heap.size_push ..
  show _ ∧ _
  rw [sz]
  have en : IsEnum ((s.heap.push ob).push { cls := .type "enumerate", data := .fields #[.none, .bool false, .ref s.heap.objs.size, rawInt 0, .none, .none] })
      (s.heap.objs.size + 1) s.heap.objs.size 0 .none := by
    have z := Heap.get?_push_size (s.heap.push ob)
      (o := { cls := .type "enumerate", data := .fields #[.none, .bool false, .ref s.heap.objs.size, rawInt 0, .none, .none] }) rfl
    rw [sz] at z
    exact z
  exact ⟨⟨_, en, rfl⟩, k _ en (Heap.get?_push_of_some _ (Heap.get?_push_size _ B.free)) fun b o x => Heap.get?_push_of_some _ (Heap.get?_push_of_some _ x)⟩
/-! ### the turns -/
/-- the tuple at a, each item in a new pair -/
def ItT (K : PySem.W.Frag) (a : Addr) : It where
  go := fun i H => ∃ (xs : List V) (x : V), SqT K H a xs ∧ xs[i]? = some x
  yld := fun i H v H' => ∃ T x, v = .ref T ∧ H T = none ∧ H' = upd H T (.tup [.int (i : Nat), x]) ∧
    ∀ xs, SqT K H a xs → xs[i]? = some x
  stop := fun i H => ∃ xs : List V, SqT K H a xs ∧ xs.length = i
theorem tup_ne {h : Heap} {a it : Addr} {items : Array Value} {i : Nat} (p : IsTup h a items) (q : h.IsTupleIter it a i) : a ≠ it := fun e => by
  subst e
  obtain ⟨o, ho, hc, _⟩ := p
  obtain ⟨o2, ho2, hc2, _⟩ := q
  have z := Option.some.inj (ho.symm.trans ho2)
  subst z
  rw [hc] at hc2
  exact absurd hc2 (by simp)
theorem turn_enT {P : Program} {w : World} {K : PySem.W.Frag} {elts : List Expr} {kk : Nat} {tpos : Pos} (a e it : Addr) :
    Turn P w K (.Tuple elts kk tpos) (ItT K a) [e, it] e
      (fun i h => (∃ old, IsEnum h e it ((i : Nat) : Int) old) ∧ h.IsTupleIter it a i ∧ e ≠ it ∧ e ≠ a) where
  mem := by simp
  obj := fun i h st b hb => by
    obtain ⟨⟨old, he⟩, ⟨o, ho, hc, hd⟩, _⟩ := st
    rcases (by simpa using hb : b = e ∨ b = it) with z | z
    · rw [z]
      exact ⟨_, he, fun v q => nomatch q⟩
    · rw [z]
      exact ⟨o, ho, fun v q => by
        rw [hd] at q
        cases q⟩
  keep := fun i h h' st k => by
    obtain ⟨⟨old, he⟩, hi, h1, h2⟩ := st
    exact ⟨⟨old, k e (by simp) _ he⟩, hi.at fun o q => k it (by simp) o q, h1, h2⟩
  item := by
    intro X hP hw hK hc i pins s σ H E I hf st hg
    subst hP hw hK
    obtain ⟨⟨old, he⟩, hit, hne, hna⟩ := st
    obtain ⟨xs, x, hq, hx⟩ := hg
    obtain ⟨its, rv, p, hz⟩ := I.tuple hq
    obtain ⟨u, hu, ru⟩ := rv.get hx
    have hel : e < s.heap.objs.size := Heap.lt_size he
    have hil : it < s.heap.objs.size := by
      obtain ⟨_, q, _⟩ := hit
      exact Heap.lt_size q
    have hlt : i < its.toArray.size := by
      rw [List.size_toArray, ← rv.length]
      exact (List.getElem?_eq_some_iff.mp hx).1
    have Dr := Draws.tuple (prog := X.prog) (w := X.w) (A := X.A.in1) (I.ok.hd hc) it a (tup_ne p hit) its.toArray
    refine wpAny_pyNext_enum_itemC Dr he ⟨hit, show s.heap.IsTuple a its.toArray from p⟩ hlt hne (by simp [hne, hna]) fun y h' tk hy ho hst' hT hsz hk => ?_
    have ey : y = u := by
      have z : its.toArray[i]? = some u := by simpa using hu
      exact Option.some.inj (hy.symm.trans z)
    subst ey
    refine ⟨_, rfl, wpAny_letOwnedTupleGo_enum (s := { s with heap := h', toks := tk + 1 }) ho fun h'' he' sb => ?_⟩
    have hT2 : h''.get? s.heap.objs.size = some { cls := .type "tuple", data := .seq #[.int (i : Int) tk, y] } := (sb.2 _ (Nat.ne_of_gt hel)).trans hT
    have new : ObjOk X.prog X.w (upd H s.heap.objs.size (.tup [.int (i : Nat), x])) h'' s.heap.objs.size (.tup [.int (i : Nat), x]) := by
      refine ⟨?_, [.int i tk, y], .cons ⟨_, rfl⟩ (.cons ru .nil), ⟨_, hT2, rfl, _, rfl⟩⟩
      show 2 ≤ sizeLine
      decide
    have keepb : ∀ b ob, b ∉ [e, it] → s.heap.get? b = some ob → h''.get? b = some ob := fun b ob hb q => by
      have n1 : b ≠ e := fun z => hb (by simp [z])
      have n2 : b ≠ it := fun z => hb (by simp [z])
      exact (sb.2 b n1).trans (hk b ob n1 n2 q)
    have I1 : Inv X pins σ (upd H s.heap.objs.size (.tup [.int (i : Nat), x])) { s with heap := h'', toks := tk + 1 } :=
      I.turnedNew (ch := [e, it]) keepb hf (Nat.le_refl _) new
    refine ⟨.ref s.heap.objs.size, _, I1, rfl, ⟨_, x, rfl, I.hok.fresh (Nat.le_refl _), rfl, fun ys hy => by
      rw [I.tuple_inj hy hq]
      exact hx⟩, ⟨⟨y, ?_⟩, hst'.1.at fun o q => (sb.2 it (Ne.symm hne)).trans q, hne, hna⟩, fun b hb => ?_⟩
    · rw [show ((i + 1 : Nat) : Int) = (i : Int) + 1 by omega]
      exact he'
    · have hb2 : b < s.heap.objs.size := by
        rcases (by simpa using hb : b = e ∨ b = it) with z | z
        · rw [z]
          exact hel
        · rw [z]
          exact hil
      rw [upd_ne (Nat.ne_of_lt hb2)]
      exact (hf b hb).1
  done := by
    intro X hP hw hK hc i pins s σ H E I hf st hg
    subst hP hw hK
    obtain ⟨⟨old, he⟩, hit, hne, hna⟩ := st
    obtain ⟨xs, hq, hx⟩ := hg
    obtain ⟨its, rv, p, hz⟩ := I.tuple hq
    obtain ⟨f0, f1, f2, f3, f4, f5⟩ := hf it (by simp)
    have Dr := Draws.tuple (prog := X.prog) (w := X.w) (A := X.A.in1) (I.ok.hd hc) it a (tup_ne p hit) its.toArray
    have hn : its.toArray.size = i := by
      rw [List.size_toArray, ← rv.length]
      exact hx
    subst hn
    exact wpAny_pyNext_enum_endD Dr he ⟨hit, show s.heap.IsTuple a its.toArray from p⟩ fun h' hk => ⟨rfl, I.turned (t' := s.toks) (fun b o hb q => hk b o hb q) f0 f1 f3 f4 f5⟩
  self := fun A i s Q E st h => by
    obtain ⟨⟨_, he⟩, _⟩ := st
    exact wpAny_pyIter_enum he h
def iEnT (K : PySem.W.Frag) (ta : TA) : TI := fun σ H R => ta σ H fun vs H1 => ∃ a xs, vs = [.ref a] ∧ SqT K H1 a xs ∧ R (ItT K a) H1
theorem pi_enumT {X : Cx} {e : Expr} {ta : TA} {p pos tpos : Pos} {elts : List Expr} {kk : Nat} (hg : Gl X "enumerate") (hm : X.mg "enumerate" = none) (ha : PA X [e] ta)
    (hs : starEach [e] X.env = [(false, eval e X.env)] := by rfl) :
    PI X (.Tuple elts kk tpos) (.Call (.Name "enumerate" p) [e] [] pos) (iEnT X.K ta) := by
  refine ⟨fun pins s σ H R I h => ?_⟩
  refine Call_ (ld_blt I hg hm boot_enumerate (PyProof.Rows.callWith_type1 (thn (ha.run pos pins s σ H _ I h) fun us s1 ⟨vs, H1, I1, r1, q1⟩ => ?_) hs rfl))
  obtain ⟨a, xs, ex, hq, q⟩ := q1
  subst ex
  cases r1 with
  | cons r rr =>
    cases rr
    cases r
    obtain ⟨its, rv, p', hz⟩ := I1.tuple hq
    have hal : a < s1.heap.objs.size := by
      obtain ⟨_, z, _⟩ := p'
      exact Heap.lt_size z
    refine enum_call1 (begins_tuple a its.toArray) (show s1.heap.IsTuple a its.toArray from p') fun hn he hit hk => wpAny_pyIter_enum he ?_
    have I2 : Inv X pins σ H1 { s1 with heap := hn } := I1.kept (t' := s1.toks) hk
    refine ⟨s1.heap.objs.size + 1, [s1.heap.objs.size + 1, s1.heap.objs.size], _, _, H1, rfl, I2, turn_enT a (s1.heap.objs.size + 1) s1.heap.objs.size,
      ⟨⟨.none, he⟩, ⟨_, hit, rfl, rfl⟩, Nat.succ_ne_self _, Nat.ne_of_gt (Nat.lt_succ_of_lt hal)⟩, fun b hb => ?_, q⟩
    have hle : s1.heap.objs.size ≤ b := by
      rcases (by simpa using hb : b = s1.heap.objs.size + 1 ∨ b = s1.heap.objs.size) with z | z
      · rw [z]
        exact Nat.le_add_right _ _
      · rw [z]
        exact Nat.le_refl _
    exact I1.fpOk hle (I1.hok.fresh hle)
/-! ### the loop -/
section
variable {K : PySem.W.Frag} {σ : L2.St} {H H' : Hp} {ta te tl : TE} {ds : List PyData} {D : Ends} {tu tz : TS} {i j : Nat}
/-- for i, x in enumerate(a tuple of data without lists) -/
theorem q_forEn (h : EvD K tl σ H (.tuple ds)) (n : nolAll ds = true)
    (k : ∀ H1, Ex H H1 → ∃ Pv : Nat → L2.St → Hp → Prop, Pv 0 σ H1 ∧ (∀ i σ' H', Pv i σ' H' → TK H1 H') ∧
      (∀ m d x σ' H' H'', ds[m]? = some d → Dp K H'' x d → Pv m σ' H' → Ex H' H'' → tu { D with nx := Pv (m + 1), ct := Pv (m + 1), bk := tz D } ((σ'.set i (some (.int (m : Nat)))).set j (some x)) H'') ∧ ∀ σ' H', Pv ds.length σ' H' → tz D σ' H') :
    tSeq (tFor (iEnT K (tCons tl tNil)) (gTup K 2 (gCons (gName i) (gCons (gName j) gNil))) tu) tz D σ H := h H (Ex.refl H) _ fun v H1 e hd => by
  obtain ⟨a, xs, rfl, s, all⟩ := dp_tup hd
  obtain ⟨Pv, h0, hk, hs, hz⟩ := k H1 e
  have hl := dpa_len all
  refine ⟨a, xs, rfl, s, fun m r σ' H' => m + r = xs.length ∧ Pv m σ' H', ⟨xs.length, Nat.zero_add _, h0⟩, fun m r σ' H' ⟨hm, p⟩ => ?_⟩
  have t := hk m σ' H' p
  have s' := sqt_tk t s
  by_cases hlt : m < xs.length
  · obtain ⟨x, gx⟩ : ∃ x, xs[m]? = some x := ⟨xs[m], List.getElem?_eq_getElem hlt⟩
    refine .inr ⟨⟨xs, x, s', gx⟩, fun σ2 H2 => Pv (m + 1) σ2 H2, fun σ2 H2 p2 => ⟨r - 1, by omega, by omega, p2⟩, fun y H2 hy => ?_⟩
    obtain ⟨T, x', rfl, nT, rfl, hx'⟩ := hy
    have ex : x' = x := Option.some.inj ((hx' xs s').symm.trans gx)
    subst ex
    have eT : Ex H' (upd H' T (.tup [.int (m : Nat), x'])) := Ex.new nT
    refine ⟨T, _, rfl, SqT.of upd_same, rfl, _, _, rfl, _, _, rfl, rfl, ?_⟩
    obtain ⟨d, gd, hx⟩ := dpa_at (dpa_tk t ds xs n all) gx
    exact hs m d x' σ' H' _ gd (mv hx eT) p eT
  · have em : m = xs.length := by omega
    subst em
    refine .inl ⟨⟨xs, s', rfl⟩, ?_⟩
    rw [hl] at p
    exact hz σ' H' p
end
end Nh
/-! NhDoor: holds, goals_of, answer, covered, chosen. -/
namespace Nh
open PySem PySem.Spec PyProof.Rows L2 Evl
section
variable {P : Program} {w : World} {K : PySem.W.Frag} {mg : Str → Option Value} {base : Heap}
section
variable {σ : L2.St} {H H' : Hp} {t : TT} {tu tz : TS} {D : Ends}
/-- an if without else whose test is false -/
theorem q_skip {b : Bool} (h : EvT t σ H b) (e : b = false) (k : ∀ H1, Ex H H1 → tz D σ H1) : tSeq (tIfS t tu tNext) tz D σ H := q_when h (fun z => by rw [e] at z; cases z) fun _ H1 e1 => k H1 e1
end
/-! ### holds -/
def spHolds (K : PySem.W.Frag) : Sp := spD K (fun x : Stand × Guard => [eGuard x.2, eInts x.1.opening, eBox x.1.box]) (fun _ => True) (fun x => .bool (holdsF x.1 x.2))
theorem cal_holds (F : DefAt K mg "holds" s_holds ["guard", "opening", "boxes"]) : C8.Cal P w K mg base 1 "holds" (spHolds K) [] := by
  refine cal_of F sc_holds (len_D fun _ => rfl) (fun f cdv A outer s H vs Q E hr h => ?_)
  obtain ⟨⟨S, gd⟩, hv, _, q⟩ := h
  dsimp only at hv q
  obtain ⟨g, o, b, rfl, hg, ho, hb⟩ := dpa3 hv
  refine ⟨_, (pss_cons (ps_set (i := 3) sc_holds.nd rfl (.inl rfl) (pe_ix ix_tup (pv 0) pe_int (fun _ _ => rfl)))
    (pss_cons (ps_if (pt_cmpR op_eq (pv 3) pe_str (nomark _)) pss_never pss_nil)
    (pss_cons (ps_if (pt_cmpR op_eq (pv 3) pe_str (nomark _)) (pss_one (ps_ret (pe_cmpR op_lt (pe_ix ix_tup (pv 2) (pe_ix ix_tup (pv 0) pe_int (fun _ _ => rfl)) (fun _ _ => rfl)) (pe_ix ix_tup (pv 0) pe_int (fun _ _ => rfl)) (nomark _)))) pss_nil)
    (pss_cons (ps_if (pt_cmpR op_eq (pv 3) pe_str (nomark _)) pss_never pss_nil)
    (pss_cons (ps_if (pt_cmpR op_eq (pv 3) pe_str (nomark _)) pss_never pss_nil)
    (pss_cons (ps_if (pt_cmpR op_eq (pv 3) pe_str (nomark _)) pss_never pss_nil)
    (pss_cons (ps_if (pt_cmpR op_eq (pv 3) pe_str (nomark _)) pss_never pss_nil)
    (pss_one (ps_ret pe_bl))))))))), ?_⟩
  cases gd with
  | yes =>
    refine q_asg (ev_str (x := "yes") (evd_ix (evd_var rfl hg) ev_c ⟨by decide, rfl⟩)) fun H1 e1 => ?_
    refine q_skip (et_test (ev_eqS (ev_var rfl) ev_c)) (by decide +kernel) fun H2 e2 => ?_
    refine q_skip (et_test (ev_eqS (ev_var rfl) ev_c)) (by decide +kernel) fun H3 e3 => ?_
    refine q_skip (et_test (ev_eqS (ev_var rfl) ev_c)) (by decide +kernel) fun H4 e4 => ?_
    refine q_skip (et_test (ev_eqS (ev_var rfl) ev_c)) (by decide +kernel) fun H5 e5 => ?_
    refine q_skip (et_test (ev_eqS (ev_var rfl) ev_c)) (by decide +kernel) fun H6 e6 => ?_
    refine q_skip (et_test (ev_eqS (ev_var rfl) ev_c)) (by decide +kernel) fun H7 e7 => ?_
    exact s_ret ev_c fun H8 e8 => q _ _ ((((((((e1.trans e2).trans e3).trans e4).trans e5).trans e6).trans e7).trans e8)) (.bl _)
  | under n =>
    refine q_asg (ev_str (x := "under") (evd_ix (evd_var rfl hg) ev_c ⟨by decide, rfl⟩)) fun H1 e1 => ?_
    refine q_skip (et_test (ev_eqS (ev_var rfl) ev_c)) (by decide +kernel) fun H2 e2 => ?_
    refine q_when (et_test (ev_eqS (ev_var rfl) ev_c)) (fun _ H3 e3 => ?_) fun hc _ _ => absurd hc (by decide +kernel)
    have eH := (e1.trans e2).trans e3
    exact s_ret (ev_op (ev_int (i := S.box) (evd_ix (evd_var rfl (mv hb eH)) (ev_int (i := 0) (evd_ix (evd_var rfl (mv hg eH)) ev_c ⟨by decide, rfl⟩)) ⟨by decide, rfl⟩)) (ev_int (i := n) (evd_ix (evd_var rfl (mv hg eH)) ev_c ⟨by decide, rfl⟩)) rv_I0)
      fun H4 e4 => q _ _ (eH.trans e4) (.bl _)
/-! ### goals_of -/
structure GoalArg where
  chart : Chart
  kept : List (List Int)
  door : Int
def GoalArg.ok (x : GoalArg) : Prop := ChartOk x.chart ∧ x.kept.length = x.chart.rooms.length ∧ 0 ≤ x.door ∧ x.door < x.chart.doors.length
def spGoals (K : PySem.W.Frag) : Sp := spL K (fun x : GoalArg => [eChart x.chart, eKept x.kept, .int x.door]) GoalArg.ok (fun x => goalsF x.kept (doorAt x.chart.doors x.door))
section
variable {σ : L2.St} {H : Hp} {te ta tb : TE} {c : Chart} {S : Stand} {k : Int}
theorem evd_doors (h : EvD K ta σ H (eChart c)) : EvD K (tOp (rIxT K) ta (tC (.int 6))) σ H (eDoors c.doors) := evd_ix h ev_c ⟨by decide, rfl⟩
theorem evd_rooms (h : EvD K ta σ H (eChart c)) : EvD K (tOp (rIxT K) ta (tC (.int 5))) σ H (eRooms c.rooms) := evd_ix h ev_c ⟨by decide, rfl⟩
theorem ev_order (h : EvD K ta σ H (eChart c)) : Ev (tOp (rIxT K) ta (tC (.int 0))) σ H (.str (eOrd c.inner)) := ev_str (evd_ix h ev_c ⟨by decide, rfl⟩)
theorem evd_door (h : EvD K ta σ H (eChart c)) (hk : Ev tb σ H (.int k)) (h0 : 0 ≤ k) (h1 : k < c.doors.length) : EvD K (tOp (rIxT K) (tOp (rIxT K) ta (tC (.int 6))) tb) σ H (eDoor (doorAt c.doors k)) := evd_ix (evd_doors h) hk (at_door h0 h1)
theorem evd_open (h : EvD K ta σ H (eStand S)) : EvD K (tOp (rIxT K) ta (tC (.int 0))) σ H (eInts S.opening) := evd_ix h ev_c ⟨by decide, rfl⟩
theorem evd_box (h : EvD K ta σ H (eStand S)) : EvD K (tOp (rIxT K) ta (tC (.int 1))) σ H (eBox S.box) := evd_ix h ev_c ⟨by decide, rfl⟩
theorem evd_kept (h : EvD K ta σ H (eStand S)) : EvD K (tOp (rIxT K) ta (tC (.int 2))) σ H (eKept S.kept) := evd_ix h ev_c ⟨by decide, rfl⟩
theorem el_listT {ns : List Int} (h : EvD K te σ H (eInts ns)) : EvL (tCB (rListS K) (tCons te tNil)) σ H (ns.map V.int) := fun H1 e Q q =>
  h H1 e _ fun v H2 e2 hd => by
    obtain ⟨a, xs, rfl, s, all⟩ := dp_tup hd
    rw [dpa_intsE all] at s
    exact ⟨a, _, rfl, .inr s, fun l nl => q l _ (fresh_back e2 nl) (e2.trans (Ex.new nl)) upd_same⟩
end
theorem cal_goals_of (T : Txt mg) (F : DefAt K mg "goals_of" s_goals_of ["chart", "kept", "door"]) : C8.Cal P w K mg base 1 "goals_of" (spGoals K) [] := by
  refine cal_of F sc_goals_of (len_L fun _ => rfl) (fun f cdv A outer s H vs Q E hr h => ?_)
  obtain ⟨⟨c, kept, door⟩, hv, ⟨cok, hkl, h0, h1⟩, q⟩ := h
  dsimp only at hv cok hkl h0 h1 q
  obtain ⟨g, o, b, rfl, hg, ho, hb⟩ := dpa3 hv
  have eb := dp_int hb
  subst eb
  have dok := cok.doors door h0 h1
  refine ⟨_, (pss_cons (ps_set (i := 3) sc_goals_of.nd rfl (.inl rfl) (pe_ix ix_tup (pe_ix ix_tup (pe_ix ix_tup (pv 0) pe_int (fun _ _ => rfl)) (pv 2) (fun _ _ => rfl)) pe_int (fun _ _ => rfl)))
    (pss_cons (ps_set (i := 4) sc_goals_of.nd rfl (.inl rfl) (pe_ix ix_tup (pe_ix ix_tup (pe_ix ix_tup (pv 0) pe_int (fun _ _ => rfl)) (pv 2) (fun _ _ => rfl)) pe_int (fun _ _ => rfl)))
    (pss_cons (ps_if (pt_cmpR op_eq (pv 3) pe_str (nomark _)) (pss_one (ps_ret (pe_lst pa_nil))) pss_nil)
    (pss_cons (ps_if (PW.pt (pw_and (pt_cmpR op_eq (pv 3) pe_str (nomark _)) (pw_and1 (pt_cmpR op_gt (pe_callB call_len_seq (by rfl) T.m_len (by decide +kernel) (pa_cons (pe_ix ix_tup (pv 1) (pv 4) (fun _ _ => rfl)) pa_nil)) pe_int (nomark _))))) (pss_one (ps_ret (pe_callTy call_list_of (by rfl) T.m_list (by decide +kernel) (pa_cons (pe_ix ix_tup (pv 1) (pv 4) (fun _ _ => rfl)) pa_nil)))) pss_nil)
    (pss_one (ps_ret (pe_lst (pa_cons (pv 4) pa_nil)))))))), ?_⟩
  refine q_asg (ev_str (x := eWay (doorAt c.doors door).way) (evd_ix (evd_door (evd_var rfl hg) (ev_var rfl) h0 h1) ev_c ⟨by decide, rfl⟩)) fun H1 e1 => ?_
  refine q_asgD (d := eGoal (doorAt c.doors door)) (evd_ix (evd_door (evd_var rfl (mv hg e1)) (ev_var rfl) h0 h1) ev_c ⟨by decide, rfl⟩) fun v H2 e2 hv2 => ?_
  have eH := e1.trans e2
  generalize doorAt c.doors door = d at dok hv2 q ⊢
  obtain ⟨room, event, guard, deeds, way, goal⟩ := d
  cases way with
  | stay =>
    refine q_when (et_test (ev_eqS (ev_var rfl) ev_c)) (fun _ H3 e3 => ?_) fun hc _ _ => absurd hc (by
      show ¬ decide (("stay" : Str) = "stay") = false
      decide +kernel)
    exact s_retL (el_lst ea_nil (Nat.zero_le _)) fun p H4 np e4 hp => q p H4 (fresh_back (eH.trans e3) np) ((eH.trans e3).trans e4) hp
  | to =>
    have ev : v = .int goal := dp_int hv2
    subst ev
    refine q_skip (et_test (ev_eqS (ev_var rfl) ev_c)) (by
      show decide (("to" : Str) = "stay") = false
      decide +kernel) fun H3 e3 => ?_
    refine q_skip (et_and (b := false) (et_test (ev_eqS (ev_var rfl) ev_c)) fun z => absurd z (by
      show ¬ decide (("to" : Str) = "back") = true
      decide +kernel)) (by
      show (decide (("to" : Str) = "back") && false) = false
      decide +kernel) fun H4 e4 => ?_
    have e5 := (eH.trans e3).trans e4
    exact s_retL (el_lst (ea_cons (ev_var rfl) ea_nil) (by show 1 ≤ 100000; omega)) fun p H6 np e6 hp => q p H6 (fresh_back e5 np) (e5.trans e6) hp
  | back =>
    have ev : v = .int goal := dp_int hv2
    subst ev
    obtain ⟨g0, g1⟩ := dok.goal (fun z => by cases z)
    dsimp only at g0 g1
    have er : goalsF kept ⟨room, event, guard, deeds, .back, goal⟩ = if rowAt kept goal = [] then [goal] else rowAt kept goal := rfl
    have aR := at_row (k := kept) g0 (by omega)
    refine q_skip (et_test (ev_eqS (ev_var rfl) ev_c)) (by
      show decide (("back" : Str) = "stay") = false
      decide +kernel) fun H3 e3 => ?_
    have e3' := eH.trans e3
    refine q_when (et_and (et_test (ev_eqS (ev_var rfl) ev_c)) fun _ => et_test (ev_op (ev_lenT (evd_ix (evd_var rfl (mv ho e3')) (ev_var rfl) aR)) ev_c rv_I0)) (fun hc H4 e4 => ?_) fun hc H4 e4 => ?_
    · rw [Bool.and_eq_true] at hc
      have hl := of_decide_eq_true hc.2
      rw [List.length_map] at hl
      have hne : ¬ rowAt kept goal = [] := fun z => by
        rw [z] at hl
        exact absurd hl (by decide)
      rw [er, if_neg hne] at q
      have e4' := e3'.trans e4
      exact s_retL (el_listT (evd_ix (evd_var rfl (mv ho e4')) (ev_var rfl) aR)) fun p H6 np e6 hp => q p H6 (fresh_back e4' np) (e4'.trans e6) hp
    · have hl : rowAt kept goal = [] := by
        rw [show decide (eWay Way.back = "back") = true by decide +kernel, Bool.true_and] at hc
        have z := of_decide_eq_false hc
        rw [List.length_map] at z
        exact List.eq_nil_iff_length_eq_zero.mpr (by omega)
      rw [er, if_pos hl] at q
      have e5 := e3'.trans e4
      exact s_retL (el_lst (ea_cons (ev_var rfl) ea_nil) (by show 1 ≤ 100000; omega)) fun p H6 np e6 hp => q p H6 (fresh_back e5 np) (e5.trans e6) hp
/-! ### answer -/
structure AnsArg where
  chart : Chart
  stand : Stand
  room : Int
  event : Int
def AnsArg.ok (x : AnsArg) : Prop := nol x.chart.names = true ∧ x.room ∈ x.stand.opening
def spAns (K : PySem.W.Frag) : Sp := spD K (fun x : AnsArg => [eChart x.chart, eStand x.stand, .int x.room, .int x.event]) AnsArg.ok (fun x => optD (ansF x.chart x.stand x.room x.event))
theorem get_doors {D : List Door} {i : Nat} {d : PyData} (h : (D.map eDoor)[i]? = some d) : ∃ x, D[i]? = some x ∧ d = eDoor x := by
  rw [List.getElem?_map] at h
  cases c : D[i]? with
  | none =>
    rw [c] at h
    cases h
  | some r =>
    rw [c] at h
    exact ⟨r, rfl, (Option.some.inj h).symm⟩
theorem drop_cons {α : Type} {l : List α} {i : Nat} {x : α} (h : l[i]? = some x) : l.drop i = x :: l.drop (i + 1) := by
  obtain ⟨hi, e⟩ := List.getElem?_eq_some_iff.mp h
  rw [List.drop_eq_getElem_cons hi, e]
section
variable {σ : L2.St} {H : Hp} {td tr te ts tg to tb : TE} {d : Door} {S : Stand} {room event : Int} {E : XK}
/-- a door's fitting -/
theorem et_fits {spH : Sp} (hd : EvD K td σ H (eDoor d)) (hr : Ev tr σ H (.int room)) (he : Ev te σ H (.int event)) (hh : Ev (tCall spH [] E (tCons (tOp (rIxT K) td (tC (.int 2))) (tCons to (tCons tb tNil)))) σ H (.bl (holdsF S d.guard))) :
    EvT (tAnd (tTest (tOp rEq (tOp (rIxT K) td (tC (.int 0))) tr)) (tAnd (tTest (tOp rEq (tOp (rIxT K) td (tC (.int 1))) te)) (tB (tCall spH [] E (tCons (tOp (rIxT K) td (tC (.int 2))) (tCons to (tCons tb tNil))))))) σ H (doorFits S room event d) :=
  et_and (et_test (ev_eqI (ev_int (i := d.room) (evd_ix hd ev_c ⟨by decide, rfl⟩)) hr)) fun _ => et_and (et_test (ev_eqI (ev_int (i := d.event) (evd_ix hd ev_c ⟨by decide, rfl⟩)) he)) fun _ => et_B hh
end
theorem cal_answer (T : Txt mg) (F : DefAt K mg "answer" s_answer ["chart", "stand", "room", "event"]) (c_holds : C8.Cal P w K mg base 1 "holds" (spHolds K) []) : C8.Cal P w K mg base 2 "answer" (spAns K) [] := by
  refine cal_of F sc_answer (len_D fun _ => rfl) (fun f cdv A outer s H vs Q E hr h => ?_)
  obtain ⟨⟨c, S, room, event⟩, hv, ⟨hnm, hin⟩, q⟩ := h
  dsimp only at hv hnm hin q
  obtain ⟨g, o, b, ev, rfl, hg, ho, hb, hev⟩ := dpa4 hv
  have eb := dp_int hb
  subst eb
  have ee := dp_int hev
  subst ee
  refine ⟨_, (pss_cons (ps_if (pt_cmpR op_notIn_seq (pv 2) (pe_ix ix_tup (pv 1) pe_int (fun _ _ => rfl)) (by rfl)) (pss_one (ps_ret pe_non)) pss_nil)
    (pss_cons (ps_for PassesOwn.never rfl (pi_enumT (by rfl) T.m_enumerate (pa_cons (pe_ix ix_tup (pv 0) pe_int (fun _ _ => rfl)) pa_nil)) (pg_tup rfl (pgs_cons (pg_name (i := 4) sc_answer.nd rfl (.inl rfl)) (pgs_cons (pg_name (i := 5) sc_answer.nd rfl (.inl rfl)) pgs_nil))) (pss_one (ps_if (PW.pt (pw_and (pt_cmpR op_eq (pe_ix ix_tup (pv 5) pe_int (fun _ _ => rfl)) (pv 2) (nomark _)) (pw_and (pt_cmpR op_eq (pe_ix ix_tup (pv 5) pe_int (fun _ _ => rfl)) (pv 3) (nomark _)) (pw_and1 (pt_val (C8.pe_c c_holds hr (by omega) (by rfl) (pa_cons (pe_ix ix_tup (pv 5) pe_int (fun _ _ => rfl)) (pa_cons (pe_ix ix_tup (pv 1) pe_int (fun _ _ => rfl)) (pa_cons (pe_ix ix_tup (pv 1) pe_int (fun _ _ => rfl)) pa_nil))))))))) (pss_one (ps_ret (pv 4))) pss_nil)))
    (pss_one (ps_ret pe_non)))), ?_⟩
  refine q_skip (et_test (ev_niT (ev_var rfl) (evd_open (evd_var rfl ho)))) (by rw [decide_eq_true hin]; rfl) fun H1 e1 => ?_
  refine q_forEn (evd_doors (evd_var rfl (mv hg e1))) (nol_eDoors c.doors) fun H2 e2 => ⟨fun i σ' H' => Ex H2 H' ∧ (∃ y z, σ' = [some g, some o, some (.int room), some (.int event), y, z]) ∧ ansGo S room event (c.doors.drop i) i = ansF c S room event, ⟨Ex.refl H2, ⟨_, _, rfl⟩, rfl⟩, fun i σ' H' p => tk_ex p.1,
    fun m d x σ' H' H'' gd hx ⟨e3, ⟨y, z, es⟩, hp⟩ e4 => ?_, fun σ' H' ⟨e3, ⟨y, z, es⟩, hp⟩ => ?_⟩
  · subst es
    obtain ⟨dr, gr, rfl⟩ := get_doors gd
    have eH := ((e1.trans e2).trans e3).trans e4
    rw [drop_cons gr] at hp
    have hp' : (if doorFits S room event dr = true then some (m : Int) else ansGo S room event (c.doors.drop (m + 1)) (m + 1)) = ansF c S room event := hp
    refine s_when (et_fits (S := S) (evd_var rfl hx) (ev_var rfl) (ev_var rfl) (ev_bl (evd_call (S, dr.guard) (ead_cons (evd_ix (evd_var rfl hx) ev_c ⟨by decide, rfl⟩) (ead_cons (evd_open (evd_var rfl (mv ho eH))) (ead_cons (evd_box (evd_var rfl (mv ho eH))) ead_nil))) trivial))) (fun hc H5 e5 => ?_) fun hc H5 e5 => ?_
    · rw [if_pos hc] at hp'
      refine s_ret (ev_var rfl) fun H6 e6 => ?_
      refine q _ _ ((eH.trans e5).trans e6) ?_
      rw [← hp']
      exact .int _
    · rw [if_neg (by rw [hc]; exact Bool.false_ne_true)] at hp'
      exact ⟨(e3.trans e4).trans e5, ⟨_, _, rfl⟩, hp'⟩
  · subst es
    rw [List.length_map, List.drop_length] at hp
    refine s_ret ev_c fun H6 e6 => ?_
    refine q _ _ (((e1.trans e2).trans e3).trans e6) ?_
    rw [← hp]
    exact .non
end
end Nh
/-! NhChosen: covered, chosen. -/
namespace Nh
open PySem PySem.Spec PyProof.Rows L2 Evl
section
variable {P : Program} {w : World} {K : PySem.W.Frag} {mg : Str → Option Value} {base : Heap}
/-- a dict of ints by ints -/
def dkv (ps : List (Int × Int)) : List (Key × V) := ps.map fun p => (Sum.inl p.1, V.int p.2)
def spCov (K : PySem.W.Frag) : Sp := fun vs H Q _ => ∃ (c : Chart) (room : Int) (ps : List (Int × Int)) (v : V) (d : Addr) (o : Obj), vs = [v, .int room, .ref d] ∧ Dp K H v (eChart c) ∧ H d = some (.frz o (.dK (dkv ps))) ∧
  aRoom c.rooms room ∧ (∀ p ∈ ps, aRoom c.rooms p.1) ∧ RetV (.bl ((ps.map Prod.fst).any (aheadF c room))) H Q
section
variable {σ : L2.St} {H : Hp} {tl : TE} {D : Ends} {tu tz : TS} {j : Nat} {d : Addr} {o : Obj} {ps : List (Int × Int)}
/-- for k in d.keys(), d locked -/
theorem q_forKeys (hl : Ev tl σ H (.ref d)) (hd : H d = some (.frz o (.dK (dkv ps)))) (Pv : Nat → L2.St → Hp → Prop) (h0 : ∀ H1, Ex H H1 → Pv 0 σ H1) (hG : ∀ i σ' H', i ≤ ps.length → Pv i σ' H' → H' d = some (.frz o (.dK (dkv ps))))
    (hs : ∀ i p σ' H', ps[i]? = some p → Pv i σ' H' → tu { D with nx := Pv (i + 1), ct := Pv (i + 1), bk := tz D } (σ'.set j (some (.int p.1))) H') (hz : ∀ σ' H', Pv ps.length σ' H' → tz D σ' H') :
    tSeq (tFor (iKeysM tl) (gName j) tu) tz D σ H := hl H (Ex.refl H) _ fun H1 e1 => by
  have hn : (dkv ps).length = ps.length := List.length_map ..
  refine ⟨d, o, dkv ps, rfl, e1 _ _ hd, for_it (walk_keys (kvs := dkv ps)) Pv (h0 H1 e1) (fun i σ' H' hi p => hG i σ' H' (by rw [← hn]; exact hi) p) (fun i x σ' H' H'' hi p ⟨eH, k, v, gk, ex⟩ => ?_) fun σ' H' p => hz σ' H' (by rw [hn] at p; exact p)⟩
  subst eH
  unfold dkv at gk
  rw [List.getElem?_map] at gk
  cases c : ps[i]? with
  | none =>
    rw [c] at gk
    cases gk
  | some p2 =>
    rw [c] at gk
    have z := Option.some.inj gk
    have zk : k = Sum.inl p2.1 := (congrArg Prod.fst z).symm
    subst zk
    subst ex
    exact hs i p2 σ' H'' c p
/-- for k, v in d.items(), d locked here -/
theorem q_forItems {i2 j2 : Nat} {K : PySem.W.Frag} (hl : ∀ H1, Ev tl σ H1 (.ref d)) (hd : H d = some (.dK (dkv ps)))
    (k : ∀ od, ∃ Pv : Nat → L2.St → Hp → Prop, Pv 0 σ (upd H d (.frz od (.dK (dkv ps)))) ∧ (∀ i σ' H', Pv i σ' H' → H' d = some (.frz od (.dK (dkv ps)))) ∧ (∀ i σ' H' H'', Pv i σ' H' → Ex H' H'' → Pv i σ' H'') ∧
      (∀ i p σ' H', ps[i]? = some p → Pv i σ' H' →
        tu { nx := Pv (i + 1), rt := fun v H' => H' d = some (.frz od (.dK (dkv ps))) ∧ D.rt v (upd H' d (.dK (dkv ps))), bk := fun σ' H' => H' d = some (.frz od (.dK (dkv ps))) ∧ tz D σ' (upd H' d (.dK (dkv ps))), ct := Pv (i + 1) } ((σ'.set i2 (some (.int p.1))).set j2 (some (.int p.2))) H') ∧
      ∀ σ' H', Pv ps.length σ' H' → tz D σ' (upd H' d (.dK (dkv ps)))) :
    tSeq (tLock (tFor (iItems tl) (gTup K 2 (gCons (gName i2) (gCons (gName j2) gNil))) tu)) tz D σ H := by
  have hn : (dkv ps).length = ps.length := List.length_map ..
  refine ⟨d, _, hd, trivial, fun od => ?_⟩
  obtain ⟨Pv, h0, hG, hm, hs, hz⟩ := k od
  refine hl _ _ (Ex.refl _) _ fun H1 e1 => ?_
  refine ⟨d, od, dkv ps, rfl, e1 _ _ upd_same, for_it walk_items Pv (hm _ _ _ _ h0 e1) (fun i σ' H' _ p => hG i σ' H' p) (fun i x σ' H' H'' hi p y => ?_) fun σ' H' p => ?_⟩
  · obtain ⟨T, a, b, rfl, nT, rfl, ga, gb⟩ := y
    dsimp only at ga gb
    unfold dkv at ga gb
    rw [List.getElem?_map] at ga gb
    cases c : ps[i]? with
    | none =>
      rw [c] at ga
      cases ga
    | some p2 =>
      rw [c] at ga gb
      have za : a = .int p2.1 := (Option.some.inj ga).symm
      have zb : b = .int p2.2 := (Option.some.inj gb).symm
      subst za zb
      exact ⟨T, _, rfl, SqT.of upd_same, rfl, _, _, rfl, _, _, rfl, rfl, hs i p2 σ' _ c (hm _ _ _ _ p (Ex.new nT))⟩
  · rw [hn] at p
    exact ⟨hG _ _ _ p, hz σ' H' p⟩
end
theorem cal_covered (F : DefAt K mg "covered" s_covered ["chart", "room", "answers"]) (c_lies_in : C8.Cal P w K mg base 2 "lies_in" (spLies K) []) : C8.Cal P w K mg base 3 "covered" (spCov K) [] := by
  refine cal_of F sc_covered (fun vs H Q E ⟨_, _, _, _, _, _, e, _⟩ => by rw [e]; rfl) (fun f cdv A outer s H vs Q E hr h => ?_)
  obtain ⟨c, room, ps, v, d, o, rfl, hc, hd, ha, hps, q⟩ := h
  refine ⟨_, (pss_cons (ps_for PassesOwn.never rfl (pi_keysM (pv 2)) (pg_name (i := 3) sc_covered.nd rfl (.inl rfl)) (pss_cons (ps_if (PW.pt (pw_and (pt_cmpR op_eq (pe_ix ix_tup (pv 0) pe_int (fun _ _ => rfl)) pe_str (nomark _)) (pw_and1 (pt_val (C8.pe_c c_lies_in hr (by omega) (by rfl) (pa_cons (pe_ix ix_tup (pv 0) pe_int (fun _ _ => rfl)) (pa_cons (pv 3) (pa_cons (pv 1) pa_nil)))))))) (pss_one (ps_ret pe_bl)) pss_nil)
    (pss_one (ps_if (PW.pt (pw_and (pt_cmpR op_eq (pe_ix ix_tup (pv 0) pe_int (fun _ _ => rfl)) pe_str (nomark _)) (pw_and1 (pt_val (C8.pe_c c_lies_in hr (by omega) (by rfl) (pa_cons (pe_ix ix_tup (pv 0) pe_int (fun _ _ => rfl)) (pa_cons (pv 1) (pa_cons (pv 3) pa_nil)))))))) (pss_one (ps_ret pe_bl)) pss_nil))))
    (pss_one (ps_ret pe_bl))), ?_⟩
  refine q_forKeys (ev_var rfl) hd (fun i σ' H' => Ex H H' ∧ (∃ y, σ' = [some v, some (.int room), some (.ref d), y]) ∧ ((ps.take i).map Prod.fst).any (aheadF c room) = false) (fun H1 e1 => ⟨e1, ⟨_, rfl⟩, rfl⟩) (fun i σ' H' _ p => p.1 _ _ hd) (fun i p σ' H' gp ⟨e, ⟨y, es⟩, hn⟩ => ?_) fun σ' H' ⟨e, ⟨y, es⟩, hn⟩ => ?_
  · subst es
    have hap := hps p (List.mem_of_getElem? gp)
    have t1 : ∀ H1, Ex H H1 → EvT (tAnd (tTest (tOp rEq (tOp (rIxT K) (tVar 0) (tC (.int 0))) (tC (.str "inner")))) (tB (tCall (spLies K) [] C8.E0 (tCons (tOp (rIxT K) (tVar 0) (tC (.int 5))) (tCons (tVar 3) (tCons (tVar 1) tNil))))))
        [some v, some (.int room), some (.ref d), some (.int p.1)] H1 (decide (eOrd c.inner = "inner") && liesF c.rooms p.1 room) := fun H1 e1 =>
      et_and (et_test (ev_eqS (ev_order (evd_var rfl (mv hc e1))) ev_c)) fun _ => et_B (et_lies (evd_rooms (evd_var rfl (mv hc e1))) (ev_var rfl) (ev_var rfl) ha)
    have t2 : ∀ H1, Ex H H1 → EvT (tAnd (tTest (tOp rEq (tOp (rIxT K) (tVar 0) (tC (.int 0))) (tC (.str "outer")))) (tB (tCall (spLies K) [] C8.E0 (tCons (tOp (rIxT K) (tVar 0) (tC (.int 5))) (tCons (tVar 1) (tCons (tVar 3) tNil))))))
        [some v, some (.int room), some (.ref d), some (.int p.1)] H1 (decide (eOrd c.inner = "outer") && liesF c.rooms room p.1) := fun H1 e1 =>
      et_and (et_test (ev_eqS (ev_order (evd_var rfl (mv hc e1))) ev_c)) fun _ => et_B (et_lies (evd_rooms (evd_var rfl (mv hc e1))) (ev_var rfl) (ev_var rfl) hap)
    have yes : aheadF c room p.1 = true → ∀ H3, Ex H H3 → tRet (tC (.bl true)) { nx := fun _ _ => False, rt := Q } [] H3 := fun hc2 H3 e3 => by
      refine s_ret ev_c fun H4 e4 => ?_
      have hb : (ps.map Prod.fst).any (aheadF c room) = true := List.any_eq_true.mpr ⟨p.1, List.mem_map.mpr ⟨p, List.mem_of_getElem? gp, rfl⟩, hc2⟩
      rw [hb] at q
      exact q H4 (e3.trans e4)
    have o1 : decide (eOrd true = "inner") = true := by decide +kernel
    have o2 : decide (eOrd false = "inner") = false := by decide +kernel
    have o3 : decide (eOrd true = "outer") = false := by decide +kernel
    have o4 : decide (eOrd false = "outer") = true := by decide +kernel
    refine q_when (t1 H' e) (fun h1 H3 e3 => ?_) fun h1 H3 e3 => ?_
    · refine yes ?_ H3 (e.trans e3)
      cases ci : c.inner with
      | true =>
        rw [ci, o1, Bool.true_and] at h1
        unfold aheadF
        rw [ci]
        exact h1
      | false =>
        rw [ci, o2, Bool.false_and] at h1
        cases h1
    · refine s_when (t2 H3 (e.trans e3)) (fun h2 H4 e4 => ?_) fun h2 H4 e4 => ?_
      · refine yes ?_ H4 ((e.trans e3).trans e4)
        cases ci : c.inner with
        | true =>
          rw [ci, o3, Bool.false_and] at h2
          cases h2
        | false =>
          rw [ci, o4, Bool.true_and] at h2
          unfold aheadF
          rw [ci]
          exact h2
      · refine ⟨(e.trans e3).trans e4, ⟨_, rfl⟩, ?_⟩
        have ho : aheadF c room p.1 = false := by
          cases ci : c.inner with
          | true =>
            rw [ci, o1, Bool.true_and] at h1
            unfold aheadF
            rw [ci]
            exact h1
          | false =>
            rw [ci, o4, Bool.true_and] at h2
            unfold aheadF
            rw [ci]
            exact h2
        rw [take_snoc gp, List.map_append, List.any_append, hn, List.map_cons, List.any_cons, ho]
        rfl
  · subst es
    rw [List.take_length] at hn
    rw [hn] at q
    exact s_ret ev_c fun H3 e3 => q H3 (e.trans e3)
/-! ### chosen -/
structure ChoArg where
  chart : Chart
  stand : Stand
  event : Int
def ChoArg.ok (x : ChoArg) : Prop := ChartOk x.chart ∧ nol x.chart.names = true ∧ StandOk x.chart.rooms 20 x.stand ∧ x.stand.opening.Nodup
def spChosen (K : PySem.W.Frag) : Sp := spL K (fun x : ChoArg => [eChart x.chart, eStand x.stand, .int x.event]) ChoArg.ok (fun x => chosenF x.chart x.stand x.event)
theorem ev_ans {σ : L2.St} {H : Hp} {t0 t1 t2 t3 : TE} {E : XK} {c : Chart} {S : Stand} {room event : Int} (h0 : EvD K t0 σ H (eChart c)) (h1 : EvD K t1 σ H (eStand S)) (h2 : Ev t2 σ H (.int room)) (h3 : Ev t3 σ H (.int event)) (ok : AnsArg.ok ⟨c, S, room, event⟩) :
    Ev (tCall (spAns K) [] E (tCons t0 (tCons t1 (tCons t2 (tCons t3 tNil))))) σ H (optV (ansF c S room event)) :=
  ev_opt (evd_call (⟨c, S, room, event⟩ : AnsArg) (ead_cons h0 (ead_cons h1 (ead_cons (evd_int h2) (ead_cons (evd_int h3) ead_nil)))) ok)
theorem ev_cov {σ : L2.St} {H : Hp} {t0 t1 t2 : TE} {E : XK} {c : Chart} {room : Int} {ps : List (Int × Int)} {d : Addr} {o : Obj} {v : V} (h0 : Ev t0 σ H v) (hv : Dp K H v (eChart c)) (h1 : Ev t1 σ H (.int room)) (h2 : Ev t2 σ H (.ref d)) (hd : H d = some (.frz o (.dK (dkv ps)))) (ha : aRoom c.rooms room)
    (hps : ∀ p ∈ ps, aRoom c.rooms p.1) : Ev (tCall (spCov K) [] E (tCons t0 (tCons t1 (tCons t2 tNil)))) σ H (.bl ((ps.map Prod.fst).any (aheadF c room))) := fun H1 e Q q =>
  h0 H1 e _ fun H2 e2 => h1 H2 (e.trans e2) _ fun H3 e3 => h2 H3 ((e.trans e2).trans e3) _ fun H4 e4 => by
    have eH := ((e.trans e2).trans e3).trans e4
    exact ⟨c, room, ps, v, d, o, rfl, mv hv eH, eH _ _ hd, ha, hps, fun H5 e5 => q H5 (((e2.trans e3).trans e4).trans e5)⟩
def ansOf (c : Chart) (S : Stand) (event : Int) (r : Int) : Option (Int × Int) := (ansF c S r event).map fun d => (r, d)
theorem val_none {ps : List (Int × Int)} {r : Int} (h : ∀ p ∈ ps, p.1 ≠ r) : valV (dkv ps) (Sum.inl r : Key) = none := by
  induction ps with
  | nil => rfl
  | cons p ps ih =>
    have h1 : ¬ ((Sum.inl p.1 : Key) = Sum.inl r) := fun e => h p List.mem_cons_self (Sum.inl.inj e)
    show valV ((Sum.inl p.1, V.int p.2) :: dkv ps) _ = none
    rw [valV_neg h1]
    exact ih fun q hq => h q (List.mem_cons_of_mem _ hq)
theorem mem_answers {c : Chart} {S : Stand} {event : Int} {l : List Int} {p : Int × Int} (h : p ∈ l.filterMap (ansOf c S event)) : p.1 ∈ l := by
  obtain ⟨r, hr, e⟩ := List.mem_filterMap.mp h
  unfold ansOf at e
  cases z : ansF c S r event with
  | none =>
    rw [z] at e
    cases e
  | some d =>
    rw [z] at e
    have e2 := Option.some.inj e
    subst e2
    exact hr
theorem cal_chosen (F : DefAt K mg "chosen" s_chosen ["chart", "stand", "event"]) (c_answer : C8.Cal P w K mg base 2 "answer" (spAns K) []) (c_covered : C8.Cal P w K mg base 3 "covered" (spCov K) []) : C8.Cal P w K mg base 4 "chosen" (spChosen K) [] := by
  refine cal_of F sc_chosen (len_L fun _ => rfl) (fun f cdv A outer s H vs Q E hr h => ?_)
  obtain ⟨⟨c, S, event⟩, hv, ⟨cok, hnm, sok, hnd⟩, q⟩ := h
  dsimp only at hv cok hnm sok hnd q
  obtain ⟨v, u, x, rfl, hc, hS, hx⟩ := dpa3 hv
  have ex := dp_int hx
  subst ex
  have hlen := sok.len
  refine ⟨_, (pss_cons (ps_set (i := 3) sc_chosen.nd rfl (.inl rfl) pe_dnewK)
    (pss_cons (ps_for PassesOwn.never rfl (pi_tup (pe_ix ix_tup (pv 1) pe_int (fun _ _ => rfl))) (pg_name (i := 4) sc_chosen.nd rfl (.inl rfl)) (pss_cons (ps_set (i := 5) sc_chosen.nd rfl (.inl rfl) (C8.pe_c c_answer hr (by omega) (by rfl) (pa_cons (pv 0) (pa_cons (pv 1) (pa_cons (pv 4) (pa_cons (pv 2) pa_nil))))))
    (pss_one (ps_if (pt_cmpR op_notN (pv 5) pe_non (nomark _)) (pss_one (ps_dput (hu_of hr) (pv 3) (pv 4) (pv 5) rfl)) pss_nil))))
    (pss_cons (ps_set (i := 6) sc_chosen.nd rfl (.inl rfl) (pe_lst pa_nil))
    (pss_cons (ps_lock (ps_for PassesOwn.never rfl (pi_items (pv 3)) (pg_tup rfl (pgs_cons (pg_name (i := 4) sc_chosen.nd rfl (.inl rfl)) (pgs_cons (pg_name (i := 5) sc_chosen.nd rfl (.inl rfl)) pgs_nil))) (pss_one (ps_if (pt_not (pt_val (C8.pe_c c_covered hr (by omega) (by rfl) (pa_cons (pv 0) (pa_cons (pv 4) (pa_cons (pv 3) pa_nil)))))) (pss_one (ps_expr (pe_bm PySem.F.plainAttrs_list PySem.F.slot_list_append PySem.F.type_list_append mt_append (pv 6) (pa_cons (pv 5) pa_nil)))) pss_nil))))
    (pss_one (ps_ret (pv 6))))))), ?_⟩
  intro d nd
  have e0 : Ex H (upd H d (.dK [])) := Ex.new nd
  refine q_forD (evd_open (evd_var rfl (mv hS e0))) (nol_ints S.opening) fun H1 e1 => ⟨fun i σ' H' => Ex H H' ∧ TK H1 H' ∧ (∃ y z, σ' = [some v, some u, some (.int event), some (.ref d), y, z, none]) ∧ H' d = some (.dK (dkv ((S.opening.take i).filterMap (ansOf c S event)))), ⟨e0.trans e1, TK.refl H1, ⟨_, _, rfl⟩, e1 _ _ upd_same⟩, fun i σ' H' p => p.2.1,
    fun i dd x σ' H' gd hx ⟨e2, t2, ⟨y, z, es⟩, hd⟩ => ?_, fun σ' H' ⟨e2, t2, ⟨y, z, es⟩, hd⟩ => ?_⟩
  · subst es
    obtain ⟨r, gr, rfl⟩ := get_ints gd
    have ex := dp_int hx
    subst ex
    have hm : r ∈ S.opening := List.mem_of_getElem? gr
    refine q_asg (ev_ans (evd_var rfl (mv hc e2)) (evd_var rfl (mv hS e2)) (ev_var rfl) (ev_var rfl) ⟨hnm, hm⟩) fun H3 e3 => ?_
    have hsn : (S.opening.take (i + 1)).filterMap (ansOf c S event) = (S.opening.take i).filterMap (ansOf c S event) ++ (match ansF c S r event with
        | none => []
        | some k => [(r, k)]) := by
      rw [take_snoc gr, List.filterMap_append, List.filterMap_cons, List.filterMap_nil]
      unfold ansOf
      cases ansF c S r event <;> rfl
    refine s_when (et_test (ev_notN (ev_var rfl))) (fun hb H4 e4 => ?_) fun hb H4 e4 => ?_
    · obtain ⟨k, hk⟩ : ∃ k, ansF c S r event = some k := Option.isSome_iff_exists.mp hb
      rw [hk] at hsn ⊢
      have eH := e3.trans e4
      have hl : ((S.opening.take i).filterMap (ansOf c S event)).length ≤ 20 := by
        have z1 := List.length_filterMap_le (ansOf c S event) (S.opening.take i)
        have z2 : (S.opening.take i).length ≤ S.opening.length := by
          rw [List.length_take]
          exact Nat.min_le_right _ _
        omega
      refine ⟨_, rfl, _, rfl, _, rfl, d, _, rfl, DPut.k (k := Sum.inl r) (eH _ _ hd) (sz_lt (by
        show (dkv _).length < 100000
        unfold dkv
        rw [List.length_map]
        omega)), (e2.trans eH).mut nd, (t2.trans (tk_ex eH)).trans (tk_upd (eH _ _ hd) trivial), ⟨_, _, rfl⟩, ?_⟩
      rw [upd_same, putK_new _ (val_none fun p hp z => ?_), hsn]
      · unfold dkv
        rw [List.map_append]
        rfl
      · have z1 := mem_answers hp
        rw [z] at z1
        have nd2 := hnd
        have e5 := List.take_append_drop (i + 1) S.opening
        rw [take_snoc gr] at e5
        rw [← e5, List.append_assoc] at nd2
        exact (List.nodup_append.mp nd2).2.2 r z1 r (by simp) rfl
    · have hk : ansF c S r event = none := by
        cases z1 : ansF c S r event with
        | none => rfl
        | some k =>
          rw [z1] at hb
          cases hb
      rw [hk] at hsn ⊢
      refine ⟨(e2.trans e3).trans e4, t2.trans (tk_ex (e3.trans e4)), ⟨_, _, rfl⟩, ?_⟩
      rw [hsn, List.append_nil]
      exact e4 _ _ (e3 _ _ hd)
  · subst es
    rw [List.length_map, List.take_length] at hd
    have hA : answersF c S event = S.opening.filterMap (ansOf c S event) := rfl
    generalize hps : S.opening.filterMap (ansOf c S event) = ps at hd hA
    have har : ∀ p ∈ ps, aRoom c.rooms p.1 := fun p hp => by
      rw [← hps] at hp
      have z1 := sok.inr p.1 (mem_answers hp)
      exact aRoom_of cok.rooms z1.1 z1.2
    have hpl : ps.length ≤ 20 := by
      have z1 := List.length_filterMap_le (ansOf c S event) S.opening
      rw [hps] at z1
      omega
    refine q_asgL (el_lst ea_nil (Nat.zero_le _)) fun p H3 np e3 hp => ?_
    have np0 := fresh_back e2 np
    have hd3 := e3 _ _ hd
    have ndp : d ≠ p := fun e => by
      rw [e] at hd
      rw [np] at hd
      cases hd
    refine q_forItems (ps := ps) (fun H1 => ev_var rfl) hd3 fun od => ⟨fun i σ' H' => Ex H H' ∧ (∃ y z, σ' = [some v, some u, some (.int event), some (.ref d), y, z, some (.ref p)]) ∧ H' d = some (.frz od (.dK (dkv ps))) ∧ H' p = some (.lst ((((ps.take i).filter fun p => !(ps.map Prod.fst).any (aheadF c p.1)).map Prod.snd).map V.int)),
      ⟨(e2.trans e3).mut nd, ⟨_, _, rfl⟩, upd_same, by
        rw [upd_ne ndp.symm, hp]
        rfl⟩, fun i σ' H' p => p.2.2.1, fun i σ' H' H'' p e => ⟨p.1.trans e, p.2.1, e _ _ p.2.2.1, e _ _ p.2.2.2⟩, fun i r σ' H' gr ⟨e4, ⟨y, z, es⟩, hd4, hp4⟩ => ?_, fun σ' H' ⟨e4, ⟨y, z, es⟩, hd4, hp4⟩ => ?_⟩
    · subst es
      refine s_when (et_not (et_B (ev_cov (ev_var rfl) (mv hc e4) (ev_var rfl) (ev_var rfl) hd4 (har r (List.mem_of_getElem? gr)) har))) (fun hb H5 e5 => ?_) fun hb H5 e5 => ?_
      · refine s_app (e5 _ _ hp4) (ev_var rfl) (ev_var rfl) ?_ fun H6 e6 => ?_
        · rw [List.length_map, List.length_map]
          have z1 := List.length_filter_le (fun p => !(ps.map Prod.fst).any (aheadF c p.1)) (ps.take i)
          rw [List.length_take] at z1
          omega
        · refine ⟨((e4.trans e5).trans e6).mut np0, ⟨_, _, rfl⟩, ?_, ?_⟩
          · rw [upd_ne ndp]
            exact e6 _ _ (e5 _ _ hd4)
          · rw [upd_same, take_snoc gr, List.filter_append, List.map_append, List.map_append, List.filter_cons_of_pos (by exact hb), List.filter_nil]
            rfl
      · refine ⟨e4.trans e5, ⟨_, _, rfl⟩, e5 _ _ hd4, ?_⟩
        rw [take_snoc gr, List.filter_append, List.filter_cons_of_neg (by rw [hb]; exact Bool.false_ne_true), List.filter_nil, List.append_nil]
        exact e5 _ _ hp4
    · subst es
      rw [List.take_length] at hp4
      have er : chosenF c S event = (ps.filter fun p => !(ps.map Prod.fst).any (aheadF c p.1)).map Prod.snd := by
        unfold chosenF
        rw [hA]
      rw [er] at q
      refine s_ret (ev_var rfl) fun H5 e5 => ?_
      exact q p H5 np0 ((e4.mut nd).trans e5) (e5 _ _ (by
        rw [upd_ne ndp.symm]
        exact hp4))
end
end Nh
/-! NhLet: deeds and letters: changed, Letters, done. -/
namespace Nh
open PySem PySem.Spec PyProof.Rows L2 Evl
/-! ### methods and classes by their names -/
structure MetAt (K : PySem.W.Frag) (C : Addr) (m qual : Str) (st : Stmt) (ps : List Str) : Prop where
  ex : ∃ (f : Addr) (fd : FuncData), Cls K C ∧ Meth K C m f ∧ L2.Fun K m qual st f fd ∧ Binds K fd ps []
structure MakAt (K : PySem.W.Frag) (mg : Str → Option Value) (x : Str) (C : Addr) (qual : Str) (st : Stmt) (ps : List Str) : Prop where
  ex : ∃ (f : Addr) (fd : FuncData), Mk K C f ∧ mg x = some (.ref C) ∧ L2.Fun K "__init__" qual st f fd ∧ Binds K fd ps []
structure LetC (K : PySem.W.Frag) (C : Addr) : Prop where
  cl : Cls K C
  nMost : NoAttr K C "most"
  nLine : NoAttr K C "line"
section
variable {P : Program} {w : World} {K : PySem.W.Frag} {mg : Str → Option Value} {base : Heap}
theorem met_of {C : Addr} {m qual : Str} {st : Stmt} {N ps : List Str} {k : Nat} {sp : Sp} (F : MetAt K C m qual st ps) (S : FnScope N ps (defScope st)) (len : ∀ vs H Q E, sp vs H Q E → vs.length = ps.length)
    (hbody : ∀ (f : Addr) (cdv : Value) (A : Around) (outer : List Env) (s : Shared) (H : Hp) (vs : List V) (Q : VK) (E : XK), L2.Room k (A.deeper (envOfC qual (defScope st) s.heap.objs.size f cdv)) → sp vs H Q E →
      ∃ t, PSs (cxOf CX0 P w K mg base N qual (defScope st) f cdv A outer s H E).nox (defBody st) t ∧ t { nx := fun _ H' => Q .non H', rt := Q } (start N vs) H) : C8.Met P w K mg base (k + 1) C m sp [] := by
  obtain ⟨f, fd, c, me, F, b⟩ := F.ex
  exact ⟨f, fd, ps, [], c, me, F.ok S len (hbody f), b, .nil⟩
theorem mak_of {x : Str} {C : Addr} {qual : Str} {st : Stmt} {N ps : List Str} {k : Nat} {sp : Sp} (F : MakAt K mg x C qual st ps) (S : FnScope N ps (defScope st)) (len : ∀ vs H Q E, sp vs H Q E → vs.length = ps.length)
    (hbody : ∀ (f : Addr) (cdv : Value) (A : Around) (outer : List Env) (s : Shared) (H : Hp) (vs : List V) (Q : VK) (E : XK), L2.Room k (A.deeper (envOfC qual (defScope st) s.heap.objs.size f cdv)) → sp vs H Q E →
      ∃ t, PSs (cxOf CX0 P w K mg base N qual (defScope st) f cdv A outer s H E).nox (defBody st) t ∧ t { nx := fun _ H' => Q .non H', rt := Q } (start N vs) H) : C8.Mak P w K mg base (k + 1) x C sp [] := by
  obtain ⟨f, fd, M, hm, F, b⟩ := F.ex
  exact ⟨f, fd, ps, [], M, F.ok S len (hbody f), hm, b, .nil⟩
/-! ### tuples put together, cut -/
section
variable {σ : L2.St} {H : Hp} {ta tb te : TE} {ds es : List PyData}
theorem dpa_take : ∀ {vs : List V} {ds : List PyData} (n : Nat), DpAll K H vs ds → DpAll K H (vs.take n) (ds.take n)
  | _, _, 0, _ => .nil
  | _, [], n + 1, h => by
    rw [dpa_nil h]
    exact .nil
  | _, d :: ds, n + 1, h => by
    obtain ⟨x, xs, rfl, hx, h2⟩ := dpa_cons h
    exact .cons hx (dpa_take n h2)
theorem dpa_drop : ∀ {vs : List V} {ds : List PyData} (n : Nat), DpAll K H vs ds → DpAll K H (vs.drop n) (ds.drop n)
  | _, _, 0, h => h
  | _, [], n + 1, h => by
    rw [dpa_nil h]
    exact .nil
  | _, d :: ds, n + 1, h => by
    obtain ⟨x, xs, rfl, hx, h2⟩ := dpa_cons h
    exact dpa_drop n h2
def cutD (ds : List PyData) (lo hi : Option Int) : List PyData := (ds.drop (HT.sIx ds.length 0 lo)).take (HT.sIx ds.length ds.length hi - HT.sIx ds.length 0 lo)
theorem dpa_cut {vs : List V} {lo hi : Option Int} (h : DpAll K H vs ds) : DpAll K H (cutV vs lo hi) (cutD ds lo hi) := by
  unfold cutV cutD
  rw [dpa_len h]
  exact dpa_take _ (dpa_drop _ h)
theorem evd_slA {tl th : TO} {lo hi : Option Int} (h : EvD K te σ H (.tuple ds)) (h1 : EvO tl σ H lo) (h2 : EvO th σ H hi) : EvD K (tSl (rSlA K) te tl th) σ H (.tuple (cutD ds lo hi)) := fun H1 e Q q =>
  h H1 e _ fun v H2 e2 hv => h1 H2 (e.trans e2) _ fun H3 e3 => h2 H3 ((e.trans e2).trans e3) _ fun H4 e4 => by
    obtain ⟨a, xs, rfl, s, all⟩ := dp_tup (mv hv (e3.trans e4))
    have eH := (e2.trans e3).trans e4
    have hl := dpa_len all
    refine ⟨a, xs, rfl, s, fun wh => ?_, fun _ p np => q (.ref p) _ (eH.trans (Ex.new np)) (.tup (SqT.of upd_same) (mva (dpa_cut all) (Ex.new np)))⟩
    refine q (.ref a) H4 eH ?_
    have ec : cutD ds lo hi = ds := by
      unfold cutD
      rw [← hl, wh.1, wh.2, List.drop_zero, Nat.sub_zero, hl, List.take_length]
    rw [ec]
    exact .tup s all
theorem evd_catA (h1 : EvD K ta σ H (.tuple ds)) (h2 : EvD K tb σ H (.tuple es)) (hz : ds.length + es.length ≤ 100000) : EvD K (tOp (rCatA K) ta tb) σ H (.tuple (ds ++ es)) := fun H1 e Q q =>
  h1 H1 e _ fun v H2 e2 hv => h2 H2 (e.trans e2) _ fun u H3 e3 hu => by
    obtain ⟨a, xs, rfl, s, all⟩ := dp_tup (mv hv e3)
    obtain ⟨b, ys, rfl, s2, all2⟩ := dp_tup hu
    have eH := e2.trans e3
    have hl := dpa_len all
    have hl2 := dpa_len all2
    refine ⟨a, b, xs, ys, rfl, rfl, s, s2, sz_of (by omega), fun ex => ?_, fun _ ey => ?_, fun _ _ p np => q (.ref p) _ (eH.trans (Ex.new np)) (.tup (SqT.of upd_same) (mva (dpa_app all all2) (Ex.new np)))⟩
    · subst ex
      have ed : ds = [] := List.eq_nil_iff_length_eq_zero.mpr hl.symm
      subst ed
      exact q (.ref b) H3 eH (.tup s2 all2)
    · subst ey
      have ed : es = [] := List.eq_nil_iff_length_eq_zero.mpr hl2.symm
      subst ed
      rw [List.append_nil] at q
      exact q (.ref a) H3 eH (.tup s all)
end
/-! ### changed -/
def chgF (b : Int) : Deed → Int
  | .add n => (b + n) % 5
  | _ => b
def eSizes : PyData := .tuple [.int 5]
def spChanged (K : PySem.W.Frag) : Sp := spD K (fun x : Int × Deed => [eDeed x.2, eBox x.1, eSizes]) (fun _ => True) (fun x => eBox (chgF x.1 x.2))
theorem cal_changed (F : DefAt K mg "changed" s_changed ["deed", "boxes", "sizes"]) : C8.Cal P w K mg base 1 "changed" (spChanged K) [] := by
  refine cal_of F sc_changed (len_D fun _ => rfl) (fun f cdv A outer s H vs Q E hr h => ?_)
  obtain ⟨⟨b, d⟩, hv, _, q⟩ := h
  dsimp only at hv q
  obtain ⟨v, u, x, rfl, hd, hb, hs⟩ := dpa3 hv
  refine ⟨_, (pss_cons (ps_if (PW.pt (pw_or (pt_cmpR op_eq (pe_ix ix_tup (pv 0) pe_int (fun _ _ => rfl)) pe_str (nomark _)) (pw_or1 (pt_cmpR op_eq (pe_ix ix_tup (pv 0) pe_int (fun _ _ => rfl)) pe_str (nomark _))))) (pss_one (ps_ret (pv 1))) pss_nil)
    (pss_cons (ps_set (i := 3) sc_changed.nd rfl (.inl rfl) (pe_ix ix_tup (pv 0) pe_int (fun _ _ => rfl)))
    (pss_cons (ps_set (i := 4) sc_changed.nd rfl (.inl rfl) (pe_ix ix_tup (pv 0) pe_int (fun _ _ => rfl)))
    (pss_cons (ps_if (pt_cmpR op_eq (pe_ix ix_tup (pv 0) pe_int (fun _ _ => rfl)) pe_str (nomark _)) (pss_one (ps_set (i := 4) sc_changed.nd rfl (.inl rfl) (pe_op op_mod (pe_op op_add (pe_ix ix_tup (pv 1) (pv 3) (fun _ _ => rfl)) (pv 4)) (pe_ix ix_tup (pv 2) (pv 3) (fun _ _ => rfl))))) pss_nil)
    (pss_one (ps_ret (pe_op op_catA (pe_op op_catA (pe_slice sl_tupA (pv 1) po_none (po_some (pv 3))) (pe_tup (pa_cons (pv 4) pa_nil))) (pe_slice sl_tupA (pv 1) (po_some (pe_op op_add (pv 3) pe_int)) po_none)))))))), ?_⟩
  cases d with
  | say t =>
    refine q_when (et_is (et_or (b := false) (et_test (ev_eqS (ev_str (x := "say") (evd_ix (evd_var rfl hd) ev_c ⟨by decide, rfl⟩)) ev_c)) fun z => absurd z (by decide +kernel)) (show _ = true by decide +kernel)) (fun _ H1 e1 => ?_) fun z => absurd z (by decide +kernel)
    exact s_ret (ev_var rfl) fun H2 e2 => q u H2 (e1.trans e2) (mv hb (e1.trans e2))
  | send e =>
    refine q_when (et_is (et_or (et_test (ev_eqS (ev_str (x := "send") (evd_ix (evd_var rfl hd) ev_c ⟨by decide, rfl⟩)) ev_c)) fun z => et_test (ev_eqS (ev_str (x := "send") (evd_ix (evd_var rfl hd) ev_c ⟨by decide, rfl⟩)) ev_c)) (show _ = true by decide +kernel)) (fun _ H1 e1 => ?_) fun z => absurd z (by decide +kernel)
    exact s_ret (ev_var rfl) fun H2 e2 => q u H2 (e1.trans e2) (mv hb (e1.trans e2))
  | add n =>
    refine q_skip0 (et_or (et_test (ev_eqS (ev_str (x := "add") (evd_ix (evd_var rfl hd) ev_c ⟨by decide, rfl⟩)) ev_c)) fun z => et_test (ev_eqS (ev_str (x := "add") (evd_ix (evd_var rfl hd) ev_c ⟨by decide, rfl⟩)) ev_c)) (by decide +kernel) fun H1 e1 => ?_
    refine q_asg (ev_int (i := 0) (evd_ix (evd_var rfl (mv hd e1)) ev_c ⟨by decide, rfl⟩)) fun H2 e2 => ?_
    have eH := e1.trans e2
    refine q_asg (ev_int (i := n) (evd_ix (evd_var rfl (mv hd eH)) ev_c ⟨by decide, rfl⟩)) fun H3 e3 => ?_
    have eH3 := eH.trans e3
    refine q_when (et_test (ev_eqS (ev_str (x := "add") (evd_ix (evd_var rfl (mv hd eH3)) ev_c ⟨by decide, rfl⟩)) ev_c)) (fun _ H4 e4 => ?_) fun z => absurd z (by decide +kernel)
    have eH4 := eH3.trans e4
    refine s_asg (ev_op (ev_op (ev_int (i := b) (evd_ix (evd_var rfl (mv hb eH4)) (ev_var rfl) ⟨by decide, rfl⟩)) (ev_var rfl) rv_I0) (ev_int (i := 5) (evd_ix (evd_var rfl (mv hs eH4)) (ev_var rfl) ⟨by decide, rfl⟩)) (rv_I (by decide))) fun H5 e5 => ?_
    have eH5 := eH4.trans e5
    refine s_retD (evd_is (evd_catA (evd_catA (evd_slA (evd_var rfl (mv hb eH5)) eo_none (eo_some (ev_var rfl))) (evd_tup (ead_cons (evd_int (ev_var rfl)) ead_nil) (by show 1 ≤ 100000; omega)) (by show 0 + 1 ≤ 100000; omega)) (evd_slA (evd_var rfl (mv hb eH5)) (eo_some (ev_op (ev_var rfl) ev_c rv_I0)) eo_none) (by show 1 + 0 ≤ 100000; omega)) rfl) fun v6 H6 e6 h6 => ?_
    exact q v6 H6 (eH5.trans e6) h6
/-! ### Letters -/
def lf (most : Int) (l : Addr) : List (Str × V) := putF "line" (.ref l) (putF "most" (.int most) [])
theorem lf_line (most : Int) (l : Addr) : (lf most l).lookup ("line" : Str) = some (.ref l) := by
  unfold lf
  rw [lookup_putF, if_pos rfl]
theorem lf_most (most : Int) (l : Addr) : (lf most l).lookup ("most" : Str) = some (.int most) := by
  unfold lf
  rw [lookup_putF, if_neg (by decide +kernel), lookup_putF, if_pos rfl]
theorem lf_no (most : Int) (l : Addr) {m : Str} (h1 : ¬ m = "line") (h2 : ¬ m = "most") : (lf most l).lookup m = none := by
  unfold lf
  rw [lookup_putF, if_neg h1, lookup_putF, if_neg h2]
  all_goals rfl
/-- a Letters at L, its list at l -/
structure LetAt (CL : Addr) (H : Hp) (L l : Addr) (most : Int) (line : List Int) : Prop where
  ob : ∃ dx, H L = some (.ins CL dx (lf most l))
  ls : H l = some (.lst (line.map V.int))
theorem LetAt.ne {CL : Addr} {H : Hp} {L l : Addr} {most : Int} {line : List Int} (h : LetAt CL H L l most line) : L ≠ l := by
  obtain ⟨⟨dx, h1⟩, h2⟩ := h
  exact ne_of h1 h2 (by intro z; cases z)
theorem LetAt.ex {CL : Addr} {H H' : Hp} {L l : Addr} {most : Int} {line : List Int} (h : LetAt CL H L l most line) (e : Ex H H') : LetAt CL H' L l most line := by
  obtain ⟨⟨dx, h1⟩, h2⟩ := h
  exact ⟨⟨dx, e _ _ h1⟩, e _ _ h2⟩
theorem LetAt.ch {CL : Addr} {H H' : Hp} {L l : Addr} {most : Int} {line line' : List Int} (h : LetAt CL H L l most line) (e : Ch l H H') (k : H' l = some (.lst (line'.map V.int))) : LetAt CL H' L l most line' := by
  have n := h.ne
  obtain ⟨⟨dx, h1⟩, h2⟩ := h
  exact ⟨⟨dx, e _ _ h1 n⟩, k⟩
theorem LetAt.tk {CL : Addr} {H H' : Hp} {L l : Addr} {most : Int} {line : List Int} (h : LetAt CL H L l most line) (e : Ch l H H') : TK H H' := tk_ch h.ls trivial e
section
variable {σ : L2.St} {H : Hp} {ta : TE} {x C dx : Addr} {fs : List (Str × V)} {f : Str} {v : V}
theorem ev_fld (h : Ev ta σ H (.ref x)) (hx : H x = some (.ins C dx fs)) (c : Cls K C) (n : NoAttr K C f) (l : fs.lookup f = some v) : Ev (tFld K ta f) σ H v := fun H1 e Q q =>
  h H1 e _ fun H2 e2 => ⟨x, C, dx, fs, v, rfl, e2 _ _ (e _ _ hx), c, n, l, q H2 e2⟩
end
def spLInit (CL : Addr) : Sp := fun vs H Q _ => ∃ (x dx : Addr) (most : Int), vs = [.ref x, .int most] ∧ H x = some (.ins CL dx []) ∧
  ∀ (H' : Hp) (l : Addr), LetAt CL H' x l most [] → H l = none → (∀ b o, H b = some o → b ≠ x → H' b = some o) → Q .non H'
theorem mak_Letters {CL : Addr} (lc : LetC K CL) (F : MakAt K mg "Letters" CL "Letters.__init__" s_Letters___init__ ["self", "most"]) : C8.Mak P w K mg base 1 "Letters" CL (spLInit CL) [] := by
  refine mak_of F sc_Letters___init__ (fun vs H Q E ⟨_, _, _, e, _⟩ => by rw [e]; rfl) (fun f cdv A outer s H vs Q E hr h => ?_)
  obtain ⟨x, dx, most, rfl, hx, k⟩ := h
  refine ⟨_, (pss_cons (ps_fld (pv 0) (pv 1) rfl)
    (pss_one (ps_fld (pv 0) (pe_lst pa_nil) rfl))), ?_⟩
  refine ⟨_, rfl, _, rfl, x, CL, dx, [], rfl, hx, lc.cl, lc.nMost, (by show 0 < 1000; decide), ?_⟩
  refine ⟨Nat.zero_le _, fun l nl => ?_⟩
  have nl2 : H l = none ∧ l ≠ x := by
    by_cases e : l = x
    · subst e
      rw [upd_same] at nl
      cases nl
    · rw [upd_ne e] at nl
      exact ⟨nl, e⟩
  have hob : upd (upd H x (.ins CL dx (putF "most" (.int most) []))) l (.lst []) x = some (.ins CL dx (putF "most" (.int most) [])) := by
    rw [upd_ne nl2.2.symm, upd_same]
  refine ⟨_, rfl, x, CL, dx, _, rfl, hob, lc.cl, lc.nLine, (by show 1 < 1000; decide), ?_⟩
  · refine k _ l ⟨⟨dx, upd_same⟩, ?_⟩ nl2.1 fun b o e hb => ?_
    · rw [upd_ne nl2.2, upd_same]
      rfl
    · rw [upd_ne hb, upd_ne (ne_of_none e nl2.1), upd_ne hb]
      exact e
def spLAdd (CL : Addr) : Sp := fun vs H Q _ => ∃ (L l : Addr) (most e : Int) (line : List Int), vs = [.ref L, .int e] ∧ LetAt CL H L l most line ∧ most ≤ 1000 ∧
  (most ≤ (line.length : Int) → RetV (.bl false) H Q) ∧ (¬ most ≤ (line.length : Int) → ∀ H', Ch l H H' → LetAt CL H' L l most (line ++ [e]) → Q (.bl true) H')
theorem met_add {CL : Addr} (T : Txt mg) (lc : LetC K CL) (F : MetAt K CL "add" "Letters.add" s_Letters_add ["self", "event"]) : C8.Met P w K mg base 1 CL "add" (spLAdd CL) [] := by
  refine met_of F sc_Letters_add (fun vs H Q E ⟨_, _, _, _, _, e, _⟩ => by rw [e]; rfl) (fun f cdv A outer s H vs Q E hr h => ?_)
  obtain ⟨L, l, most, e, line, rfl, hL, hm, k1, k2⟩ := h
  obtain ⟨⟨dx, h1⟩, h2⟩ := id hL
  refine ⟨_, (pss_cons (ps_if (pt_cmpR op_ge (pe_callB call_len_seq (by rfl) T.m_len (by decide +kernel) (pa_cons (pe_fld (pv 0) rfl) pa_nil)) (pe_fld (pv 0) rfl) (nomark _)) (pss_one (ps_ret pe_bl)) pss_nil)
    (pss_cons (ps_expr (pe_bm PySem.F.plainAttrs_list PySem.F.slot_list_append PySem.F.type_list_append mt_append (pe_fld (pv 0) rfl) (pa_cons (pv 1) pa_nil)))
    (pss_one (ps_ret pe_bl)))), ?_⟩
  refine q_when (et_test (ev_op (ev_len (ev_fld (ev_var rfl) h1 lc.cl lc.nLine (lf_line _ _)) (SqL.of h2)) (ev_fld (ev_var rfl) h1 lc.cl lc.nMost (lf_most _ _)) rv_I0)) (fun hc H1 e1 => ?_) fun hc H1 e1 => ?_
  · have hc' := of_decide_eq_true hc
    rw [List.length_map] at hc'
    exact s_ret ev_c fun H2 e2 => k1 hc' H2 (e1.trans e2)
  · have hc' := of_decide_eq_false hc
    rw [List.length_map] at hc'
    refine q_app (e1 _ _ h2) (ev_fld (ev_var rfl) (e1 _ _ h1) lc.cl lc.nLine (lf_line _ _)) (ev_var rfl) ?_ fun H2 e2 => ?_
    · rw [List.length_map]
      omega
    · have eH := e1.trans e2
      have hu : upd H2 l (.lst (line.map V.int ++ [.int e])) l = some (.lst ((line ++ [e]).map V.int)) := by
        rw [upd_same, List.map_append]
        rfl
      have ch : Ch l H (upd H2 l (.lst (line.map V.int ++ [.int e]))) := (ch_ex eH).trans ch_upd
      exact s_ret ev_c fun H3 e3 => k2 hc' H3 (ch.trans (ch_ex e3)) ((hL.ch ch hu).ex e3)
def spLWait (CL : Addr) : Sp := fun vs H Q _ => ∃ (L l : Addr) (most : Int) (line : List Int), vs = [.ref L] ∧ LetAt CL H L l most line ∧ RetL (line.map V.int) H Q
theorem met_waiting {CL : Addr} (T : Txt mg) (lc : LetC K CL) (F : MetAt K CL "waiting" "Letters.waiting" s_Letters_waiting ["self"]) : C8.Met P w K mg base 1 CL "waiting" (spLWait CL) [] := by
  refine met_of F sc_Letters_waiting (fun vs H Q E ⟨_, _, _, _, e, _⟩ => by rw [e]; rfl) (fun f cdv A outer s H vs Q E hr h => ?_)
  obtain ⟨L, l, most, line, rfl, hL, k⟩ := h
  obtain ⟨⟨dx, h1⟩, h2⟩ := id hL
  refine ⟨_, (pss_one (ps_ret (pe_callTy call_list_of (by rfl) T.m_list (by decide +kernel) (pa_cons (pe_fld (pv 0) rfl) pa_nil)))), ?_⟩
  exact s_retL (el_list (ev_fld (ev_var rfl) h1 lc.cl lc.nLine (lf_line _ _)) (SqL.of h2)) fun p H1 np e1 hp => k p H1 np e1 hp
/-! ### done -/
section
variable {σ : L2.St} {H : Hp} {to te : TE} {D : Ends} {tu tw : TS} {CL L l : Addr} {most e : Int} {line : List Int} {E : XK}
/-- if letters.add(e): .. else: .. -/
theorem s_ifAdd (hL : LetAt CL H L l most line) (hm : most ≤ 1000) (h0 : Ev to σ H (.ref L)) (h1 : Ev te σ H (.int e)) (k1 : ¬ most ≤ (line.length : Int) → ∀ H', Ch l H H' → LetAt CL H' L l most (line ++ [e]) → tu D σ H')
    (k2 : most ≤ (line.length : Int) → ∀ H', Ex H H' → tw D σ H') : tIfS (tB (tMeth CL "add" (spLAdd CL) [] E to (tCons te tNil))) tu tw D σ H :=
  h0 H (Ex.refl H) _ fun H1 e1 => by
    obtain ⟨dx, h2⟩ := (hL.ex e1).ob
    refine ⟨L, dx, _, rfl, h2, lf_no _ _ (by decide +kernel) (by decide +kernel), h1 H1 e1 _ fun H2 e2 => ?_⟩
    have eH := e1.trans e2
    exact ⟨L, l, most, e, line, rfl, hL.ex eH, hm, fun z H3 e3 => ⟨false, rfl, k2 z H3 (eH.trans e3)⟩, fun z H3 c3 h3 => ⟨true, rfl, k1 z H3 ((ch_ex eH).trans c3) h3⟩⟩
end
structure DoneArg where
  deeds : List Deed
  box : Int
  most : Int
  line : List Int
def spDone (K : PySem.W.Frag) (CL : Addr) : Sp := fun vs H Q _ => ∃ (x : DoneArg) (v u z : V) (L l : Addr), vs = [v, u, z, .ref L] ∧ Dp K H v (eDeeds x.deeds) ∧ Dp K H u (eBox x.box) ∧ Dp K H z eSizes ∧ LetAt CL H L l x.most x.line ∧ x.most ≤ 1000 ∧ x.deeds.length ≤ 1000 ∧
  ∀ (H' : Hp) (p q : Addr) (bv : V) (rs : List V), Ch l H H' → LetAt CL H' L l x.most (doneF x.most x.box x.line x.deeds).line → H' p = some (.tup [bv, .ref q]) → H q = none → H' q = some (.lst rs) →
    DpAll K H' rs ((doneF x.most x.box x.line x.deeds).told.map eEnt) → Dp K H' bv (eBox (doneF x.most x.box x.line x.deeds).box) → Q (.ref p) H'
theorem get_deeds {D : List Deed} {i : Nat} {d : PyData} (h : (D.map eDeed)[i]? = some d) : ∃ x, D[i]? = some x ∧ d = eDeed x := by
  rw [List.getElem?_map] at h
  cases c : D[i]? with
  | none =>
    rw [c] at h
    cases h
  | some r =>
    rw [c] at h
    exact ⟨r, rfl, (Option.some.inj h).symm⟩
theorem deed_told (most : Int) (s : Pst) (d : Deed) : (deedF most s d).told.length = s.told.length + 1 := by
  unfold deedF
  cases d with
  | say w => simp
  | send e =>
    dsimp only
    split <;> simp
  | add n => simp
theorem fold_told (most : Int) : ∀ (ds : List Deed) (s : Pst), (ds.foldl (deedF most) s).told.length = s.told.length + ds.length
  | [], s => rfl
  | d :: ds, s => by
    rw [List.foldl_cons, fold_told most ds, deed_told, List.length_cons]
    omega
theorem done_told (most b : Int) (line : List Int) (ds : List Deed) : (doneF most b line ds).told.length = ds.length := by
  unfold doneF
  rw [fold_told]
  show 0 + ds.length = ds.length
  omega
theorem cal_done {CL : Addr} (F : DefAt K mg "done" s_done ["deeds", "boxes", "sizes", "letters"]) (c_changed : C8.Cal P w K mg base 1 "changed" (spChanged K) []) (c_Letters_add : C8.Met P w K mg base 1 CL "add" (spLAdd CL) []) :
    C8.Cal P w K mg base 2 "done" (spDone K CL) [] := by
  refine cal_of F sc_done (fun vs H Q E ⟨_, _, _, _, _, _, e, _⟩ => by rw [e]; rfl) (fun f cdv A outer s H vs Q E hr h => ?_)
  obtain ⟨⟨ds, b, most, line⟩, v, u, z, L, l, rfl, hv, hu, hz, hL, hm, hd, k⟩ := h
  dsimp only at hv hu hz hL hm hd k
  refine ⟨_, (pss_cons (ps_set (i := 4) sc_done.nd rfl (.inl rfl) (pe_lst pa_nil))
    (pss_cons (ps_for PassesOwn.never rfl (pi_tup (pv 0)) (pg_name (i := 5) sc_done.nd rfl (.inl rfl)) (pss_cons (ps_set (i := 1) sc_done.nd rfl (.inl rfl) (C8.pe_c c_changed hr (by omega) (by rfl) (pa_cons (pv 5) (pa_cons (pv 1) (pa_cons (pv 2) pa_nil)))))
    (pss_one (ps_if (pt_cmpR op_eq (pe_ix ix_tup (pv 5) pe_int (fun _ _ => rfl)) pe_str (nomark _)) (pss_one (ps_expr (pe_bm PySem.F.plainAttrs_list PySem.F.slot_list_append PySem.F.type_list_append mt_append (pv 4) (pa_cons (pe_tup (pa_cons pe_str (pa_cons (pe_ix ix_tup (pv 5) pe_int (fun _ _ => rfl)) pa_nil))) pa_nil)))) (pss_one (ps_if (pt_cmpR op_eq (pe_ix ix_tup (pv 5) pe_int (fun _ _ => rfl)) pe_str (nomark _)) (pss_one (ps_if (pt_val (C8.pe_mt c_Letters_add hr (by omega) (pv 3) (pa_cons (pe_ix ix_tup (pv 5) pe_int (fun _ _ => rfl)) pa_nil))) (pss_one (ps_expr (pe_bm PySem.F.plainAttrs_list PySem.F.slot_list_append PySem.F.type_list_append mt_append (pv 4) (pa_cons (pe_tup (pa_cons pe_str (pa_cons (pe_ix ix_tup (pv 5) pe_int (fun _ _ => rfl)) pa_nil))) pa_nil)))) (pss_one (ps_expr (pe_bm PySem.F.plainAttrs_list PySem.F.slot_list_append PySem.F.type_list_append mt_append (pv 4) (pa_cons (pe_tup (pa_cons pe_str (pa_cons (pe_ix ix_tup (pv 5) pe_int (fun _ _ => rfl)) pa_nil))) pa_nil)))))) (pss_one (ps_expr (pe_bm PySem.F.plainAttrs_list PySem.F.slot_list_append PySem.F.type_list_append mt_append (pv 4) (pa_cons (pe_tup (pa_cons pe_str (pa_cons (pe_ix ix_tup (pv 5) pe_int (fun _ _ => rfl)) (pa_cons (pe_ix ix_tup (pv 1) (pe_ix ix_tup (pv 5) pe_int (fun _ _ => rfl)) (fun _ _ => rfl)) pa_nil)))) pa_nil))))))))))
    (pss_one (ps_ret (pe_tup (pa_cons (pv 1) (pa_cons (pv 4) pa_nil))))))), ?_⟩
  refine q_asgL (el_lst ea_nil (Nat.zero_le _)) fun q H1 nq e1 hq => ?_
  have nql : q ≠ l := fun e => by
    rw [e, hL.ls] at nq
    cases nq
  have hs0 : Dp K H z eSizes := hz
  refine q_forD (ds := ds.map eDeed) (evd_var rfl (mv hv e1)) (nol_map nol_eDeed ds) fun H2 e2 => ⟨fun i σ' H' => TK H2 H' ∧ Ch l H H' ∧ ∃ (u' y : V) (yo : Option V) (rs : List V), σ' = [some v, some u', some z, some (.ref L), some (.ref q), yo] ∧
      Dp K H' u' (eBox ((ds.take i).foldl (deedF most) ⟨b, line, []⟩).box) ∧ Dp K H' z eSizes ∧ LetAt CL H' L l most ((ds.take i).foldl (deedF most) ⟨b, line, []⟩).line ∧ H' q = some (.lst rs) ∧ DpAll K H' rs (((ds.take i).foldl (deedF most) ⟨b, line, []⟩).told.map eEnt),
      ⟨TK.refl H2, ch_ex (e1.trans e2), u, u, none, [], rfl, mv hu (e1.trans e2), mv hz (e1.trans e2), hL.ex (e1.trans e2), e2 _ _ hq, .nil⟩, fun i σ' H' p => p.1,
      fun i d x σ' H' gd hx ⟨t3, c3, u', _, yo, rs, es, hu', hz', hL', hq', hrs⟩ => ?_, fun σ' H' ⟨t3, c3, u', _, yo, rs, es, hu', hz', hL', hq', hrs⟩ => ?_⟩
  · subst es
    obtain ⟨dd, gr, rfl⟩ := get_deeds gd
    dsimp only
    rw [take_snoc gr, List.foldl_append]
    have htl : ((ds.take i).foldl (deedF most) ⟨b, line, []⟩).told.length ≤ 1000 := by
      rw [fold_told, List.length_take]
      show 0 + _ ≤ 1000
      omega
    generalize (ds.take i).foldl (deedF most) ⟨b, line, []⟩ = st at hu' hL' hrs htl ⊢
    have hrl := dpa_len hrs
    rw [List.length_map] at hrl
    refine q_asgD (evd_call (st.box, dd) (ead_cons (evd_var rfl hx) (ead_cons (evd_var rfl hu') (ead_cons (evd_var rfl hz') ead_nil))) trivial) fun u2 H3 e3 hu2 => ?_
    dsimp only at hu2
    have t0 : TK H2 H3 := t3.trans (tk_ex e3)
    have c0 : Ch l H H3 := c3.trans (ch_ex e3)
    have hx3 := mv hx e3
    have hz3 := mv hz' e3
    have hL3 := hL'.ex e3
    have hq3 := e3 _ _ hq'
    have hrs3 := mva hrs e3
    -- an entry put behind the record
    have put : ∀ (ent : Ent) (st2 : Pst) (y : V) (H4 H5 : Hp), Ch l H3 H4 → Ex H4 H5 → st2 = deedF most st dd → st2.box = chgF st.box dd → st2.told = st.told ++ [ent] → LetAt CL H4 L l most st2.line → Dp K H5 y (eEnt ent) →
        TK H2 (upd H5 q (.lst (rs ++ [y]))) ∧ Ch l H (upd H5 q (.lst (rs ++ [y]))) ∧ ∃ (u' _ : V) (yo : Option V) (rs' : List V), [some v, some u2, some z, some (.ref L), some (.ref q), some x] = [some v, some u', some z, some (.ref L), some (.ref q), yo] ∧
          Dp K (upd H5 q (.lst (rs ++ [y]))) u' (eBox ([dd].foldl (deedF most) st).box) ∧ Dp K (upd H5 q (.lst (rs ++ [y]))) z eSizes ∧ LetAt CL (upd H5 q (.lst (rs ++ [y]))) L l most ([dd].foldl (deedF most) st).line ∧ upd H5 q (.lst (rs ++ [y])) q = some (.lst rs') ∧
          DpAll K (upd H5 q (.lst (rs ++ [y]))) rs' (([dd].foldl (deedF most) st).told.map eEnt) := fun ent st2 y H4 H5 c4 e5 es2 eb et hl4 hy => by
      have hq4 : H4 q = some (.lst rs) := c4 _ _ hq3 nql
      have hq5 := e5 _ _ hq4
      have tt : TK H3 H5 := (hL3.tk c4).trans (tk_ex e5)
      have tu : TK H5 (upd H5 q (.lst (rs ++ [y]))) := tk_upd hq5 trivial
      have efold : [dd].foldl (deedF most) st = st2 := es2.symm
      rw [efold, eb, et]
      have cq : ∀ b o, H b = some o → b ≠ l → upd H5 q (.lst (rs ++ [y])) b = some o := fun b o hb hbl => by
        rw [upd_ne (ne_of_none hb nq)]
        exact e5 _ _ (c4 _ _ (c0 _ _ hb hbl) hbl)
      have hl5 := hl4.ex e5
      obtain ⟨⟨dx, hLo⟩, hLl⟩ := id hl5
      refine ⟨(t0.trans tt).trans tu, cq, u2, u2, some x, rs ++ [y], rfl, mt hu2 (tt.trans tu) rfl, mt hz3 (tt.trans tu) rfl, ⟨⟨dx, ?_⟩, ?_⟩, upd_same, ?_⟩
      · rw [upd_ne (ne_of hLo hq5 (by intro z; cases z))]
        exact hLo
      · rw [upd_ne nql.symm]
        exact hLl
      · rw [List.map_append]
        exact dpa_app (dpa_tk (tt.trans tu) _ _ (nol_map nol_eEnt _) hrs3) (.cons (mt hy tu (nol_eEnt ent)) .nil)
    cases dd with
    | say t =>
      refine s_if (et_test (ev_eqS (ev_str (x := "say") (evd_ix (evd_var rfl hx3) ev_c ⟨by decide, rfl⟩)) ev_c)) (fun _ H4 e4 => ?_) fun z => absurd z (by decide +kernel)
      refine s_appD (e4 _ _ hq3) (ev_var rfl) (evd_tup (ead_cons (evd_str ev_c) (ead_cons (evd_ix (evd_var rfl (mv hx3 e4)) ev_c ⟨by decide, rfl⟩) ead_nil)) (by show 2 ≤ 100000; omega)) (by omega) fun y H5 e5 hy => ?_
      exact put (.say t) _ y H4 H5 (ch_ex e4) e5 rfl rfl rfl (hL3.ex e4) hy
    | send e =>
      refine s_if (et_test (ev_eqS (ev_str (x := "send") (evd_ix (evd_var rfl hx3) ev_c ⟨by decide, rfl⟩)) ev_c)) (fun z => absurd z (by decide +kernel)) fun _ H4 e4 => ?_
      refine s_if (et_test (ev_eqS (ev_str (x := "send") (evd_ix (evd_var rfl (mv hx3 e4)) ev_c ⟨by decide, rfl⟩)) ev_c)) (fun _ H5 e5 => ?_) fun z => absurd z (by decide +kernel)
      have e45 := e4.trans e5
      refine s_ifAdd (hL3.ex e45) hm (ev_var rfl) (ev_int (i := e) (evd_ix (evd_var rfl (mv hx3 e45)) ev_c ⟨by decide, rfl⟩)) (fun hlt H6 c6 h6 => ?_) fun hge H6 e6 => ?_
      · have c36 : Ch l H3 H6 := (ch_ex e45).trans c6
        have hx6 := mt hx3 (hL3.tk c36) (nol_eDeed _)
        refine s_appD (c36 _ _ hq3 nql) (ev_var rfl) (evd_tup (ead_cons (evd_str ev_c) (ead_cons (evd_ix (evd_var rfl hx6) ev_c ⟨by decide, rfl⟩) ead_nil)) (by show 2 ≤ 100000; omega)) (by omega) fun y H7 e7 hy => ?_
        refine put (.num "send" e) ⟨st.box, st.line ++ [e], st.told ++ [.num "send" e]⟩ y H6 H7 c36 e7 ?_ rfl rfl h6 hy
        show _ = (if most ≤ (st.line.length : Int) then _ else _)
        rw [if_neg hlt]
      · have e36 := e45.trans e6
        refine s_appD (e36 _ _ hq3) (ev_var rfl) (evd_tup (ead_cons (evd_str ev_c) (ead_cons (evd_ix (evd_var rfl (mv hx3 e36)) ev_c ⟨by decide, rfl⟩) ead_nil)) (by show 2 ≤ 100000; omega)) (by omega) fun y H7 e7 hy => ?_
        refine put (.num "lost" e) ⟨st.box, st.line, st.told ++ [.num "lost" e]⟩ y H6 H7 (ch_ex e36) e7 ?_ rfl rfl (hL3.ex e36) hy
        show _ = (if most ≤ (st.line.length : Int) then _ else _)
        rw [if_pos hge]
    | add n =>
      refine s_if (et_test (ev_eqS (ev_str (x := "add") (evd_ix (evd_var rfl hx3) ev_c ⟨by decide, rfl⟩)) ev_c)) (fun z => absurd z (by decide +kernel)) fun _ H4 e4 => ?_
      refine s_if (et_test (ev_eqS (ev_str (x := "add") (evd_ix (evd_var rfl (mv hx3 e4)) ev_c ⟨by decide, rfl⟩)) ev_c)) (fun z => absurd z (by decide +kernel)) fun _ H5 e5 => ?_
      have e45 := e4.trans e5
      have hx5 := mv hx3 e45
      refine s_appD (e45 _ _ hq3) (ev_var rfl) (evd_tup (ead_cons (evd_str ev_c) (ead_cons (evd_ix (evd_var rfl hx5) ev_c ⟨by decide, rfl⟩) (ead_cons (evd_ix (evd_var rfl (mv hu2 e45)) (ev_int (i := 0) (evd_ix (evd_var rfl hx5) ev_c ⟨by decide, rfl⟩)) ⟨by decide, rfl⟩) ead_nil))) (by show 3 ≤ 100000; omega)) (by omega) fun y H7 e7 hy => ?_
      exact put (.put ((st.box + n) % 5)) _ y H5 H7 (ch_ex e45) e7 rfl rfl rfl (hL3.ex e45) hy
  · subst es
    rw [List.length_map, List.take_length] at hu' hL' hrs
    refine ⟨_, rfl, _, rfl, ?_, fun p np => ?_⟩
    · show 2 ≤ sizeLine
      decide
    · refine k _ p q u' rs (c3.trans (ch_ex (Ex.new np))) (hL'.ex (Ex.new np)) upd_same nq (Ex.new np _ _ hq') (mva hrs (Ex.new np)) (mv hu' (Ex.new np))
end
end Nh
/-! NhRoad: Road and its steps. -/
namespace Nh
open PySem PySem.Spec PyProof.Rows L2 Evl
structure RoadC (K : PySem.W.Frag) (C : Addr) : Prop where
  cl : Cls K C
  nSizes : NoAttr K C "sizes"
  nBoxes : NoAttr K C "boxes"
  nLetters : NoAttr K C "letters"
  nRecord : NoAttr K C "record"
def rf (sz bx : V) (L q : Addr) : List (Str × V) := putF "record" (.ref q) (putF "letters" (.ref L) (putF "boxes" bx (putF "sizes" sz [])))
theorem rf_record (sz bx : V) (L q : Addr) : (rf sz bx L q).lookup ("record" : Str) = some (.ref q) := by
  unfold rf
  rw [lookup_putF, if_pos rfl]
theorem rf_letters (sz bx : V) (L q : Addr) : (rf sz bx L q).lookup ("letters" : Str) = some (.ref L) := by
  unfold rf
  rw [lookup_putF, if_neg (by decide +kernel), lookup_putF, if_pos rfl]
theorem rf_boxes (sz bx : V) (L q : Addr) : (rf sz bx L q).lookup ("boxes" : Str) = some bx := by
  unfold rf
  rw [lookup_putF, if_neg (by decide +kernel), lookup_putF, if_neg (by decide +kernel), lookup_putF, if_pos rfl]
theorem rf_sizes (sz bx : V) (L q : Addr) : (rf sz bx L q).lookup ("sizes" : Str) = some sz := by
  unfold rf
  rw [lookup_putF, if_neg (by decide +kernel), lookup_putF, if_neg (by decide +kernel), lookup_putF, if_neg (by decide +kernel), lookup_putF, if_pos rfl]
theorem rf_step (sz bx : V) (L q : Addr) : (rf sz bx L q).lookup ("step" : Str) = none := by
  unfold rf
  rw [lookup_putF, if_neg (by decide +kernel), lookup_putF, if_neg (by decide +kernel), lookup_putF, if_neg (by decide +kernel), lookup_putF, if_neg (by decide +kernel)]
  all_goals rfl
theorem rs1 : ¬ ("sizes" : Str) = "boxes" := by decide +kernel
theorem rs2 : ¬ ("sizes" : Str) = "letters" := by decide +kernel
theorem rs3 : ¬ ("sizes" : Str) = "record" := by decide +kernel
theorem rs4 : ¬ ("boxes" : Str) = "letters" := by decide +kernel
theorem rs5 : ¬ ("boxes" : Str) = "record" := by decide +kernel
theorem rs6 : ¬ ("letters" : Str) = "record" := by decide +kernel
theorem rf_eq (sz bx : V) (L q : Addr) : rf sz bx L q = [(("sizes" : Str), sz), (("boxes" : Str), bx), (("letters" : Str), .ref L), (("record" : Str), .ref q)] := by
  unfold rf
  simp only [putF, if_neg rs1, if_neg rs2, if_neg rs3, if_neg rs4, if_neg rs5, if_neg rs6]
theorem rf_put (sz bx by' : V) (L q : Addr) : putF "boxes" by' (rf sz bx L q) = rf sz by' L q := by
  rw [rf_eq, rf_eq]
  simp only [putF, if_neg rs1, if_true]
theorem rf_len (sz bx : V) (L q : Addr) : (rf sz bx L q).length < 1000 := by
  rw [rf_eq]
  show 4 < 1000
  decide
/-- a Road at x on its way: its record at q, its Letters at L with the list at l -/
structure RS (K : PySem.W.Frag) (CR CL : Addr) (H : Hp) (x q L l : Addr) (most : Int) (s : Pst) : Prop where
  ob : ∃ dx sz bx, H x = some (.ins CR dx (rf sz bx L q)) ∧ Dp K H sz eSizes ∧ Dp K H bx (eBox s.box)
  tl : ∃ rs, H q = some (.lst rs) ∧ DpAll K H rs (s.told.map eEnt)
  le : LetAt CL H L l most s.line
  nql : q ≠ l
  nxL : x ≠ L
/-- all that stood but what is at x, q, l stands -/
def Ch3 (x q l : Addr) (H H' : Hp) : Prop := ∀ b o, H b = some o → b ≠ x → b ≠ q → b ≠ l → H' b = some o
theorem Ch3.refl (x q l : Addr) (H : Hp) : Ch3 x q l H H := fun _ _ h _ _ _ => h
theorem Ch3.trans {x q l : Addr} {H H1 H2 : Hp} (a : Ch3 x q l H H1) (b : Ch3 x q l H1 H2) : Ch3 x q l H H2 := fun c o h n1 n2 n3 => b c o (a c o h n1 n2 n3) n1 n2 n3
theorem ch3_ex {x q l : Addr} {H H' : Hp} (e : Ex H H') : Ch3 x q l H H' := fun b o h _ _ _ => e b o h
section
variable {P : Program} {w : World} {K : PySem.W.Frag} {mg : Str → Option Value} {base : Heap} {CR CL : Addr}
theorem RS.ex {H H' : Hp} {x q L l : Addr} {most : Int} {s : Pst} (h : RS K CR CL H x q L l most s) (e : Ex H H') : RS K CR CL H' x q L l most s := by
  obtain ⟨⟨dx, sz, bx, h1, h2, h3⟩, ⟨rs, h4, h5⟩, hl, n1, n2⟩ := h
  exact ⟨⟨dx, sz, bx, e _ _ h1, mv h2 e, mv h3 e⟩, ⟨rs, e _ _ h4, mva h5 e⟩, hl.ex e, n1, n2⟩
theorem RS.tk {H H' : Hp} {x q L l : Addr} {most : Int} {s : Pst} (h : RS K CR CL H x q L l most s) (c : Ch3 x q l H H') : TK H H' := by
  obtain ⟨⟨dx, sz, bx, h1, h2, h3⟩, ⟨rs, h4, h5⟩, hl, n1, n2⟩ := h
  have h6 := hl.ls
  intro a xs r
  rcases r with r | ⟨ob, r⟩
  · refine Or.inl (c _ _ r (fun e => ?_) (fun e => ?_) fun e => ?_)
    · subst e
      rw [h1] at r
      cases r
    · subst e
      rw [h4] at r
      cases r
    · subst e
      rw [h6] at r
      cases r
  · refine Or.inr ⟨ob, c _ _ r (fun e => ?_) (fun e => ?_) fun e => ?_⟩
    · subst e
      rw [h1] at r
      cases r
    · subst e
      rw [h4] at r
      cases r
    · subst e
      rw [h6] at r
      cases r
/-! ### a comprehension over a tuple of data, each element data -/
section
variable {σ : L2.St} {H : Hp} {tl te : TE} {ds : List PyData} {j : Nat} {vs : List Nat}
theorem evd_lcD (gd : PyData → PyData) (h : EvD K tl σ H (.tuple ds)) (n : nolAll ds = true) (n2 : ∀ d, nol (gd d) = true) (hz : ds.length ≤ 40000) (hw : ∀ x, wipe ((wipe σ vs).set j (some x)) vs = wipe σ vs)
    (hs : ∀ d x H1, Ex H H1 → d ∈ ds → Dp K H1 x d → EvD K te ((wipe σ vs).set j (some x)) H1 (gd d)) : EvD K (tLc (iTup K tl) (gName j) tYes te vs) σ H (.list (ds.map gd)) := fun H1 e Q q =>
  h H1 e _ fun v H2 e2 hd => by
    obtain ⟨a, xs, rfl, s, all⟩ := dp_tup hd
    refine ⟨a, rfl, ⟨xs, s⟩, fun Dl nD => lc_tup (K := K) (a := a) (xs := xs) (fun i H' => Ex H2 H' ∧ ∃ rs, H' Dl = some (.lst rs) ∧ DpAll K H' rs ((ds.take i).map gd)) ⟨Ex.new nD, [], upd_same, ?_⟩ (fun i H' _ p => ex_t p.1 s) (fun i x H' gx ⟨e3, rs, hD, hrs⟩ => ?_) fun H' ⟨e3, rs, hD, hrs⟩ => ?_⟩
    · rw [List.take_zero]
      exact .nil
    · obtain ⟨d, gd', hx⟩ := dpa_at all gx
      have hl := dpa_len hrs
      rw [List.length_map, List.length_take] at hl
      refine ⟨hw _, ?_⟩
      show te _ H' _
      refine hs d x H2 (e.trans e2) (List.mem_of_getElem? gd') hx H' e3 _ fun y H4 e4 hy => ⟨rs, e4 _ _ hD, sz_lt (by omega), (e3.trans e4).mut nD, rs ++ [y], upd_same, ?_⟩
      have t : TK H4 (upd H4 Dl (.lst (rs ++ [y]))) := tk_upd (e4 _ _ hD) trivial
      have et : (ds.take (i + 1)).map gd = (ds.take i).map gd ++ [gd d] := by
        rw [List.take_add_one, gd', List.map_append]
        rfl
      rw [et]
      exact dpa_app (dpa_tk t _ _ (nol_map n2 _) (mva hrs e4)) (.cons (mt hy t (n2 d)) .nil)
    · rw [dpa_len all, List.take_length] at hrs
      exact q (.ref Dl) H' (e2.trans e3) (.lst (SqL.of hD) hrs)
end
theorem q_fldD {σ : L2.St} {H : Hp} {ta tv : TE} {D : Ends} {tz : TS} {d : PyData} {x C dx : Addr} {fs : List (Str × V)} {f : Str} (hv : EvD K tv σ H d) (h0 : Ev ta σ H (.ref x)) (hx : H x = some (.ins C dx fs)) (c : Cls K C) (n : NoAttr K C f) (hl : fs.length < 1000)
    (k : ∀ v H1, Ex H H1 → Dp K H1 v d → tz D σ (upd H1 x (.ins C dx (putF f v fs)))) : tSeq (sFld K ta tv f) tz D σ H :=
  hv H (Ex.refl H) _ fun v H1 e1 h1 => h0 H1 e1 _ fun H2 e2 => ⟨x, C, dx, fs, rfl, e2 _ _ (e1 _ _ hx), c, n, hl, k v H2 (e1.trans e2) (mv h1 e2)⟩
/-! ### Road(..) -/
def spRInit (K : PySem.W.Frag) (CR : Addr) : Sp := fun vs H Q _ => ∃ (x dx : Addr) (v u : V) (L : Addr) (c : Chart) (b : Int), vs = [.ref x, v, u, .ref L] ∧ H x = some (.ins CR dx []) ∧ Dp K H v (eChart c) ∧ Dp K H u (eBox b) ∧
  ∀ (H' : Hp) (q : Addr) (sz : V), H' x = some (.ins CR dx (rf sz u L q)) → Dp K H' sz eSizes → H q = none → H' q = some (.lst []) → (∀ b o, H b = some o → b ≠ x → H' b = some o) → Q .non H'
theorem mak_Road (T : Txt mg) (rc : RoadC K CR) (F : MakAt K mg "Road" CR "Road.__init__" s_Road___init__ ["self", "chart", "boxes", "letters"]) : C8.Mak P w K mg base 1 "Road" CR (spRInit K CR) [] := by
  refine mak_of F sc_Road___init__ (fun vs H Q E ⟨_, _, _, _, _, _, _, e, _⟩ => by rw [e]; rfl) (fun f cdv A outer s H vs Q E hr h => ?_)
  obtain ⟨x, dx, v, u, L, c, b, rfl, hx, hv, hu, k⟩ := h
  refine ⟨_, (pss_cons (ps_fld (pv 0) (pe_callTy call_tuple_of (by rfl) T.m_tuple (by decide +kernel) (pa_cons (pe_lc (own := [("box", 4)]) (g := gName 4) (by rfl) sc_Road___init__.nd (pi_tup (pe_ix ix_tup (pv 1) pe_int (fun _ _ => rfl))) (blkOk_by (own := [("box", 4)]) (N := N_Road___init__) (sc := defScope s_Road___init__) (by decide +kernel)) (fun _ _ _ _ _ => pg_name (i := 4) sc_Road___init__.nd rfl (.inl rfl)) (fun _ _ _ _ _ => pts_nil) (fun _ _ _ _ _ => (pe_ix (r := rIxT K) ix_tup (pv 4) pe_int (fun _ _ => rfl)))) pa_nil)) rfl)
    (pss_cons (ps_fld (pv 0) (pv 2) rfl)
    (pss_cons (ps_fld (pv 0) (pv 3) rfl)
    (pss_one (ps_fld (pv 0) (pe_lst pa_nil) rfl))))), ?_⟩
  -- self.sizes = tuple([box[1] for box in chart[3]])
  have key : EvD K (tCB (fun xs H Q => ∃ p ys, xs = [.ref p] ∧ ((SqL K H p ys ∧ ∀ l, H l = none → Q (.ref l) (upd H l (.tup ys))) ∨ (SqT K H p ys ∧ Q (.ref p) H))) (tCons (tLc (iTup K (tOp (rIxT K) (tVar 1) (tC (.int 3)))) (gName 4) tYes (tOp (rIxT K) (tVar 4) (tC (.int 1))) [4]) tNil))
      [some (.ref x), some v, some u, some (.ref L), none] H eSizes :=
    evd_is (evd_tupL (evd_lcD (fun _ => .int 5) (evd_ix (evd_var rfl hv) ev_c ⟨by decide, rfl⟩) rfl (fun _ => rfl) (by show 1 ≤ 40000; omega) (fun x => rfl) fun d x H1 e1 hd hx1 => by
      have ed : d = .tuple [.str "cup", .int 5, .int 1] := by
        rcases hd with _ | ⟨_, hd⟩
        · rfl
        · cases hd
      subst ed
      exact evd_ix (evd_var rfl hx1) ev_c ⟨by decide, rfl⟩)) rfl
  refine q_fldD key (ev_var rfl) hx rc.cl rc.nSizes (by show 0 < 1000; decide) fun sz H1 e1 hsz => ?_
  have h1 := e1 _ _ hx
  refine ⟨_, rfl, _, rfl, x, CR, dx, _, rfl, upd_same, rc.cl, rc.nBoxes, (by show 1 < 1000; decide), ?_⟩
  refine ⟨_, rfl, _, rfl, x, CR, dx, _, rfl, upd_same, rc.cl, rc.nLetters, (by simp only [putF, if_neg rs1]; show 2 < 1000; decide), ?_⟩
  rw [upd_upd, upd_upd]
  refine ⟨Nat.zero_le _, fun q nq => ?_⟩
  have nqx : q ≠ x := fun e => by
    subst e
    rw [upd_same] at nq
    cases nq
  have nq1 : H1 q = none := by
    rw [upd_ne nqx] at nq
    exact nq
  have hob : ∀ fs, upd (upd H1 x (.ins CR dx fs)) q (.lst []) x = some (.ins CR dx fs) := fun fs => by
    rw [upd_ne nqx.symm, upd_same]
  refine ⟨_, rfl, x, CR, dx, _, rfl, hob _, rc.cl, rc.nRecord, (by simp only [putF, if_neg rs1, if_neg rs2, if_neg rs4]; show 3 < 1000; decide), ?_⟩
  have t1 : TK H1 (upd H1 x (.ins CR dx (putF "letters" (.ref L) (putF "boxes" u (putF "sizes" sz []))))) := tk_upd h1 trivial
  have t2 := t1.trans (tk_ex (Ex.new (o := .lst []) nq))
  have t3 := t2.trans (tk_upd (u := .ins CR dx (rf sz u L q)) (hob _) trivial)
  refine k _ q sz upd_same (mt hsz t3 rfl) (fresh_back e1 nq1) ?_ fun b o hb hbx => ?_
  · rw [upd_ne nqx, upd_same]
  · have nbq : b ≠ q := ne_of_none (e1 _ _ hb) nq1
    rw [upd_ne hbx, upd_ne nbq, upd_ne hbx]
    exact e1 _ _ hb
/-! ### road.step(..) -/
structure StepArg where
  most : Int
  s : Pst
  word : Str
  number : Int
  deeds : List Deed
def spStep (K : PySem.W.Frag) (CR CL : Addr) : Sp := fun vs H Q _ => ∃ (z : StepArg) (x q L l : Addr) (v : V), vs = [.ref x, .str z.word, .int z.number, v] ∧ Dp K H v (eDeeds z.deeds) ∧ RS K CR CL H x q L l z.most z.s ∧ z.most ≤ 1000 ∧ z.deeds.length ≤ 1000 ∧ z.s.told.length + 1 + z.deeds.length ≤ 90000 ∧
  ∀ H', Ch3 x q l H H' → RS K CR CL H' x q L l z.most (stepF z.most z.s z.word z.number z.deeds) → Q .non H'
theorem met_step (rc : RoadC K CR) (F : MetAt K CR "step" "Road.step" s_Road_step ["self", "word", "number", "deeds"]) (c_done : C8.Cal P w K mg base 2 "done" (spDone K CL) []) : C8.Met P w K mg base 3 CR "step" (spStep K CR CL) [] := by
  refine met_of F sc_Road_step (fun vs H Q E ⟨_, _, _, _, _, _, e, _⟩ => by rw [e]; rfl) (fun f cdv A outer s H vs Q E hr h => ?_)
  obtain ⟨⟨most, st, word, number, ds⟩, x, q, L, l, v, rfl, hv, R, hm, hd, hb, k⟩ := h
  dsimp only at hv R hm hd hb k
  obtain ⟨⟨dx, sz, bx, h1, h2, h3⟩, ⟨rs, h4, h5⟩, hl, nql, nxL⟩ := id R
  have hrl := dpa_len h5
  rw [List.length_map] at hrl
  refine ⟨_, (pss_cons (ps_set (i := 4) sc_Road_step.nd rfl (.inl rfl) (C8.pe_c c_done hr (by omega) (by rfl) (pa_cons (pv 3) (pa_cons (pe_fld (pv 0) rfl) (pa_cons (pe_fld (pv 0) rfl) (pa_cons (pe_fld (pv 0) rfl) pa_nil))))))
    (pss_cons (ps_fld (pv 0) (pe_ix ix_tup (pv 4) pe_int (fun _ _ => rfl)) rfl)
    (pss_cons (ps_expr (pe_bm PySem.F.plainAttrs_list PySem.F.slot_list_append PySem.F.type_list_append mt_append (pe_fld (pv 0) rfl) (pa_cons (pe_tup (pa_cons (pv 1) (pa_cons (pv 2) pa_nil))) pa_nil)))
    (pss_one (ps_expr (pe_bm PySem.F.plainAttrs_list PySem.F.slot_list_extend PySem.F.type_list_extend mt_extend (pe_fld (pv 0) rfl) (pa_cons (pe_ix ix_tup (pv 4) pe_int (fun _ _ => rfl)) pa_nil))))))), ?_⟩
  -- found = done(deeds, self.boxes, self.sizes, self.letters)
  refine ⟨_, rfl, _, rfl, x, CR, dx, _, _, rfl, h1, rc.cl, rc.nBoxes, rf_boxes _ _ _ _, _, rfl, x, CR, dx, _, _, rfl, h1, rc.cl, rc.nSizes, rf_sizes _ _ _ _, _, rfl, x, CR, dx, _, _, rfl, h1, rc.cl, rc.nLetters, rf_letters _ _ _ _, ?_⟩
  refine ⟨⟨ds, st.box, most, st.line⟩, v, bx, sz, L, l, rfl, hv, h3, h2, hl, hm, hd, fun H1 p q2 bv rs2 c1 hl1 hp nq2 hq2 hrs2 hbv => ?_⟩
  dsimp only at hl1 hrs2 hbv
  have hdl := done_told most st.box st.line ds
  have hrl2 := dpa_len hrs2
  rw [List.length_map, hdl] at hrl2
  have nxl : x ≠ l := ne_of h1 hl.ls (by intro z; cases z)
  have nxq : x ≠ q := ne_of h1 h4 (by intro z; cases z)
  have hx1 := c1 _ _ h1 nxl
  have hq1 := c1 _ _ h4 nql
  have t1 : TK H H1 := hl.tk c1
  have nq2x : q2 ≠ x := (ne_of_none h1 nq2).symm
  have nq2q : q2 ≠ q := (ne_of_none h4 nq2).symm
  have nq2l : q2 ≠ l := (ne_of_none hl.ls nq2).symm
  have npx : p ≠ x := ne_of hp hx1 (by intro z; cases z)
  have npq : p ≠ q := ne_of hp hq1 (by intro z; cases z)
  -- self.boxes = found[0]
  refine ⟨_, rfl, p, _, 0, bv, rfl, rfl, SqT.of hp, rfl, _, rfl, x, CR, dx, _, rfl, hx1, rc.cl, rc.nBoxes, rf_len _ _ _ _, ?_⟩
  rw [rf_put]
  -- self.record.append((word, number))
  have hq2' : upd H1 x (.ins CR dx (rf sz bv L q)) q = some (.lst rs) := by
    rw [upd_ne nxq.symm]
    exact hq1
  have tx : TK H1 (upd H1 x (.ins CR dx (rf sz bv L q))) := tk_upd hx1 trivial
  refine q_appD (d := eEnt (Ent.num word number)) hq2' (ev_fld (ev_var rfl) upd_same rc.cl rc.nRecord (rf_record _ _ _ _)) (evd_tup (ead_cons (evd_str (ev_var rfl)) (ead_cons (evd_int (ev_var rfl)) ead_nil)) (by show 2 ≤ 100000; omega)) (by omega) fun y H3 e3 hy => ?_
  have hx3 : upd H3 q (.lst (rs ++ [y])) x = some (.ins CR dx (rf sz bv L q)) := by
    rw [upd_ne nxq]
    exact e3 _ _ upd_same
  have hp3 : upd H3 q (.lst (rs ++ [y])) p = some (.tup [bv, .ref q2]) := by
    rw [upd_ne npq]
    refine e3 _ _ ?_
    rw [upd_ne npx]
    exact hp
  have hq3 : upd H3 q (.lst (rs ++ [y])) q2 = some (.lst rs2) := by
    rw [upd_ne nq2q]
    refine e3 _ _ ?_
    rw [upd_ne nq2x]
    exact hq2
  have tq : TK H3 (upd H3 q (.lst (rs ++ [y]))) := tk_upd (e3 _ _ hq2') trivial
  -- self.record.extend(found[1])
  refine ⟨_, rfl, x, CR, dx, _, _, rfl, hx3, rc.cl, rc.nRecord, rf_record _ _ _ _, .inl ⟨rfl, _, SqL.of upd_same⟩, _, rfl, p, _, 1, .ref q2, rfl, rfl, SqT.of hp3, rfl, q, q2, _, _, rfl, rfl, upd_same, hq3, sz_of ?_, ?_⟩
  · rw [List.length_append]
    show rs.length + 1 + rs2.length ≤ 100000
    omega
  · rw [upd_upd]
    have tt : TK H1 (upd H3 q (.lst ((rs ++ [y]) ++ rs2))) := (tx.trans (tk_ex e3)).trans (tk_upd (e3 _ _ hq2') trivial)
    have t3 : TK H3 (upd H3 q (.lst ((rs ++ [y]) ++ rs2))) := tk_upd (e3 _ _ hq2') trivial
    refine k _ (fun b o hb2 n1 n2 n3 => ?_) ⟨⟨dx, sz, bv, ?_, mt h2 (t1.trans tt) rfl, mt hbv tt rfl⟩, ⟨(rs ++ [y]) ++ rs2, upd_same, ?_⟩, ?_, nql, nxL⟩
    · rw [upd_ne n2]
      refine e3 _ _ ?_
      rw [upd_ne n1]
      exact c1 _ _ hb2 n3
    · rw [upd_ne nxq]
      exact e3 _ _ upd_same
    · show DpAll K _ _ (((st.told ++ [Ent.num word number]) ++ (doneF most st.box st.line ds).told).map eEnt)
      rw [List.map_append, List.map_append]
      exact dpa_app (dpa_app (dpa_tk (t1.trans tt) _ _ (nol_map nol_eEnt _) h5) (.cons (mt hy t3 rfl) .nil)) (dpa_tk tt _ _ (nol_map nol_eEnt _) hrs2)
    · obtain ⟨⟨dL, hLo⟩, hLl⟩ := hl1
      refine ⟨⟨dL, ?_⟩, ?_⟩
      · have nLq : L ≠ q := ne_of hLo hq1 (by intro z; cases z)
        rw [upd_ne nLq]
        refine e3 _ _ ?_
        rw [upd_ne nxL.symm]
        exact hLo
      · rw [upd_ne nql.symm]
        refine e3 _ _ ?_
        rw [upd_ne nxl.symm]
        exact hLl
section
variable {σ : L2.St} {H : Hp} {to tw tn td : TE} {D : Ends} {tz : TS} {x q L l : Addr} {most n : Int} {s : Pst} {wd : Str} {ds : List Deed} {E : XK}
theorem s_step (R : RS K CR CL H x q L l most s) (hm : most ≤ 1000) (hd : ds.length ≤ 1000) (hb : s.told.length + 1 + ds.length ≤ 90000) (h0 : Ev to σ H (.ref x)) (h1 : Ev tw σ H (.str wd)) (h2 : Ev tn σ H (.int n)) (h3 : EvD K td σ H (eDeeds ds))
    (k : ∀ H', Ch3 x q l H H' → RS K CR CL H' x q L l most (stepF most s wd n ds) → D.nx σ H') : tDrop (tMeth CR "step" (spStep K CR CL) [] E to (tCons tw (tCons tn (tCons td tNil)))) D σ H :=
  h0 H (Ex.refl H) _ fun H1 e1 => by
    obtain ⟨dx, sz, bx, g1, _, _⟩ := (R.ex e1).ob
    refine ⟨x, dx, _, rfl, g1, rf_step _ _ _ _, h1 H1 e1 _ fun H2 e2 => h2 H2 (e1.trans e2) _ fun H3 e3 => h3 H3 ((e1.trans e2).trans e3) _ fun v H4 e4 hv => ?_⟩
    have eH := ((e1.trans e2).trans e3).trans e4
    exact ⟨⟨most, s, wd, n, ds⟩, x, q, L, l, v, rfl, hv, R.ex eH, hm, hd, hb, fun H5 c5 R5 => k H5 ((ch3_ex eH).trans c5) R5⟩
theorem q_step (R : RS K CR CL H x q L l most s) (hm : most ≤ 1000) (hd : ds.length ≤ 1000) (hb : s.told.length + 1 + ds.length ≤ 90000) (h0 : Ev to σ H (.ref x)) (h1 : Ev tw σ H (.str wd)) (h2 : Ev tn σ H (.int n)) (h3 : EvD K td σ H (eDeeds ds))
    (k : ∀ H', Ch3 x q l H H' → RS K CR CL H' x q L l most (stepF most s wd n ds) → tz D σ H') : tSeq (tDrop (tMeth CR "step" (spStep K CR CL) [] E to (tCons tw (tCons tn (tCons td tNil))))) tz D σ H := s_step (D := { D with nx := tz D }) R hm hd hb h0 h1 h2 h3 k
end
end
end Nh
/-! NhPassed: a door passed. -/
namespace Nh
open PySem PySem.Spec PyProof.Rows L2 Evl
/-! ### bounds -/
theorem step_told (most : Int) (s : Pst) (w : Str) (n : Int) (ds : List Deed) : (stepF most s w n ds).told.length = s.told.length + 1 + ds.length := by
  unfold stepF
  dsimp only
  rw [List.length_append, List.length_append, done_told]
  rfl
theorem outs_told {R : List Room} (ok : RoomsOk R) (most : Int) : ∀ (left : List Int) (s : Pst), (∀ r ∈ left, 0 ≤ r ∧ r < R.length) → (outsF most R s left).told.length ≤ s.told.length + 4 * left.length
  | [], s, _ => Nat.le_refl _
  | r :: left, s, h => by
    have h1 := h r List.mem_cons_self
    have h2 := ok.outs r h1.1 h1.2
    have ih := outs_told ok most left (stepF most s "out" r (roomAt R r).outs) fun x hx => h x (List.mem_cons_of_mem _ hx)
    rw [step_told] at ih
    show (outsF most R (stepF most s "out" r (roomAt R r).outs) left).told.length ≤ _
    rw [List.length_cons]
    omega
theorem ins_told {R : List Room} (ok : RoomsOk R) (most : Int) : ∀ (gone : List Int) (s : Pst), (∀ r ∈ gone, 0 ≤ r ∧ r < R.length) → (insF most R s gone).told.length ≤ s.told.length + 4 * gone.length
  | [], s, _ => Nat.le_refl _
  | r :: gone, s, h => by
    have h1 := h r List.mem_cons_self
    have h2 := ok.ins r h1.1 h1.2
    have ih := ins_told ok most gone (stepF most s "in" r (roomAt R r).ins) fun x hx => h x (List.mem_cons_of_mem _ hx)
    rw [step_told] at ih
    show (insF most R (stepF most s "in" r (roomAt R r).ins) gone).told.length ≤ _
    rw [List.length_cons]
    omega
theorem goGo_mem {R : List Room} (ok : RoomsOk R) (goals : List Int) : ∀ (f : Nat) (u r : Int), aRoom R u → r ∈ goGo R goals f u → 0 ≤ r ∧ r < R.length
  | 0, _, _, _, h => by cases h
  | f + 1, u, r, ha, h => by
    obtain ⟨k, hk, hr⟩ := List.mem_flatMap.mp h
    have hm := (mem_kids ha (mem_entered hk)).1
    rcases List.mem_cons.mp hr with e | hr
    · subst e
      exact ⟨hm.1, hm.2.1⟩
    · exact goGo_mem ok goals f k r hm hr
theorem goings_mem {R : List Room} (ok : RoomsOk R) {under : Option Int} (hu : ∀ u, under = some u → aRoom R u) {goals : List Int} {r : Int} (h : r ∈ goingsF R under goals) : 0 ≤ r ∧ r < R.length := by
  cases under with
  | none =>
    have hp := ok.pos
    rcases List.mem_cons.mp h with e | h
    · subst e
      omega
    · exact goGo_mem ok goals _ 0 r (aRoom_of ok (Int.le_refl 0) (by omega)) h
  | some u => exact goGo_mem ok goals _ u r (hu u rfl) h
theorem goings_len {R : List Room} (ok : RoomsOk R) {under : Option Int} (hu : ∀ u, under = some u → aRoom R u) {goals : List Int} : (goingsF R under goals).length ≤ 42 := by
  cases under with
  | none =>
    have hp := ok.pos
    have z := goIn_len ok (goals := goals) (u := 0) (aRoom_of ok (Int.le_refl 0) (by omega))
    show (goIn R goals 0).length + 1 ≤ 42
    omega
  | some u =>
    have z := goIn_len ok (goals := goals) (hu u rfl)
    show (goIn R goals u).length ≤ 42
    omega
theorem left_mem {R : List Room} {under : Option Int} {opening : List Int} {r : Int} (h : r ∈ leftF R under opening) : r ∈ opening := List.mem_reverse.mp (List.mem_filter.mp h).1
theorem left_len (R : List Room) (under : Option Int) (opening : List Int) : (leftF R under opening).length ≤ opening.length := by
  have z := List.length_filter_le (outF R under) opening.reverse
  rw [List.length_reverse] at z
  exact z
theorem hallGo_in {R : List Room} (other : Int) : ∀ (f : Nat) (o : Option Int) {u : Int}, (∀ a, o = some a → 0 ≤ a ∧ a < R.length) → hallGo R other f o = some u → 0 ≤ u ∧ u < R.length
  | 0, _, _, _, h => by cases h
  | f + 1, none, _, _, h => by cases h
  | f + 1, some a, u, ho, h => by
    have ha := ho a rfl
    have h' : (if (decide (kind R a = "one") && liesF R other a) = true then some a else hallGo R other f (parentF R a)) = some u := h
    split at h'
    · have e := Option.some.inj h'
      subst e
      exact ha
    · refine hallGo_in other f _ (fun b e => ?_) h'
      have z := parent_lt ha.1 e
      omega
theorem hall_in {R : List Room} {one other u : Int} (h : 0 ≤ one ∧ one < R.length) (e : hallF R one other = some u) : 0 ≤ u ∧ u < R.length := hallGo_in other _ _ (fun a ea => by
  have z := parent_lt h.1 ea
  omega) e
theorem eWay_stay (w : Way) : decide (eWay w = "stay") = decide (w = .stay) := by
  cases w <;> decide +kernel
theorem eGoal_int {d : Door} (h : ¬ d.way = .stay) : eGoal d = .int d.goal := by
  unfold eGoal
  cases e : d.way with
  | stay => exact absurd e h
  | to => rfl
  | back => rfl
theorem sort_eq {ns ms : List Int} (p : ms.Perm ns) (h : ms.Pairwise (· ≤ ·)) : ms = sortF ns := by
  have h1 : (sortF ns).Perm ns := List.mergeSort_perm ns _
  have h2 : (sortF ns).Pairwise (fun a b => decide (a ≤ b) = true) := List.pairwise_mergeSort (fun a b c x y => by
    have x' := of_decide_eq_true x
    have y' := of_decide_eq_true y
    exact decide_eq_true (by omega)) (fun a b => by
    rw [Bool.or_eq_true]
    by_cases z : a ≤ b
    · exact .inl (decide_eq_true z)
    · exact .inr (decide_eq_true (by omega))) ns
  have h3 : ms.Pairwise (fun a b => decide (a ≤ b) = true) := h.imp fun z => decide_eq_true z
  exact List.Perm.eq_of_pairwise (fun a b _ _ x y => by
    have x' := of_decide_eq_true x
    have y' := of_decide_eq_true y
    omega) h3 h2 (p.trans h1.symm)
theorem mem_sort {ns : List Int} {r : Int} (h : r ∈ sortF ns) : r ∈ ns := List.mem_mergeSort.mp h
theorem sort_len (ns : List Int) : (sortF ns).length = ns.length := (List.mergeSort_perm ns _).length_eq
/-- what passing a door keeps -/
theorem passed_ok {c : Chart} {S : Stand} {k : Int} {line : List Int} {n : Nat} (cok : ChartOk c) (sok : StandOk c.rooms n S) (h0 : 0 ≤ k) (h1 : k < c.doors.length) : StandOk c.rooms (n + 42) (passedF c S k line).stand := by
  have dok := cok.doors k h0 h1
  obtain ⟨inr, len, kp, rows⟩ := sok
  unfold passedF
  split
  · exact ⟨inr, by show S.opening.length ≤ n + 42; omega, kp, fun row h => Nat.le_trans (rows row h) (Nat.le_add_right _ _)⟩
  · have hu : ∀ u, underF c k = some u → aRoom c.rooms u := fun u e => by
      have z := hall_in dok.room e
      exact aRoom_of cok.rooms z.1 z.2
    refine ⟨fun r hr => ?_, ?_, ?_, fun row hrow => ?_⟩
    · rcases List.mem_append.mp (mem_sort hr) with h | h
      · exact inr r (List.mem_filter.mp h).1
      · exact goings_mem cok.rooms hu h
    · show (sortF _).length ≤ n + 42
      rw [sort_len, List.length_append]
      have z1 := List.length_filter_le (fun r => !decide (r ∈ passLeft c S k)) S.opening
      have z2 := goings_len cok.rooms hu (goals := goalsF (passKept c S k) (doorAt c.doors k))
      unfold passStay passGone
      omega
    · show (keepingF _ _ _ _).length = _
      unfold keepingF
      rw [List.length_map, List.length_range]
    · obtain ⟨i, _, e⟩ := List.mem_map.mp hrow
      have hb : (rowAt S.kept (i : Int)).length ≤ n := by
        unfold rowAt
        rw [List.getD_eq_getElem?_getD]
        cases z : S.kept[((i : Nat) : Int).toNat]? with
        | none => exact Nat.zero_le n
        | some row2 => exact rows row2 (List.mem_of_getElem? z)
      have hk : (keptF c.rooms S.opening (i : Int) (rowAt S.kept (i : Int))).length ≤ n := by
        unfold keptF
        split
        · have z1 := List.length_filter_le (fun r => liesF c.rooms r (i : Int)) (plainF c.rooms S.opening)
          have z2 := List.length_filter_le (fun r => decide (kind c.rooms r = "plain")) S.opening
          unfold plainF at *
          omega
        · exact hb
      rw [← e]
      show (if (i : Int) ∈ passLeft c S k then _ else _ : List Int).length ≤ n + 42
      split <;> omega
theorem passed_told {c : Chart} {S : Stand} {k : Int} {line : List Int} {n : Nat} (cok : ChartOk c) (sok : StandOk c.rooms n S) (h0 : 0 ≤ k) (h1 : k < c.doors.length) : (passedF c S k line).told.length ≤ 4 * n + 173 := by
  have dok := cok.doors k h0 h1
  obtain ⟨inr, len, kp, rows⟩ := sok
  have hs : (passStart c S k line).told.length = 1 := by
    unfold passStart
    rw [step_told]
    rfl
  have hdd := dok.deeds
  unfold passedF
  split
  · show (stepF _ _ _ _ _).told.length ≤ _
    rw [step_told, hs]
    omega
  · have hu : ∀ u, underF c k = some u → aRoom c.rooms u := fun u e => by
      have z := hall_in dok.room e
      exact aRoom_of cok.rooms z.1 z.2
    show (passGo c S k line _ _ _).told.length ≤ _
    unfold passGo
    have z1 := ins_told cok.rooms c.most (passGone c S k) (stepF c.most (outsF c.most c.rooms (passStart c S k line) (passLeft c S k)) "through" k (doorAt c.doors k).deeds) fun r hr => goings_mem cok.rooms hu hr
    have z2 := outs_told cok.rooms c.most (passLeft c S k) (passStart c S k line) fun r hr => inr r (left_mem hr)
    have z3 := left_len c.rooms (underF c k) S.opening
    have z4 := goings_len cok.rooms hu (goals := goalsF (passKept c S k) (doorAt c.doors k))
    rw [step_told] at z1
    rw [hs] at z2
    unfold passLeft at *
    unfold passGone at *
    omega
section
variable {P : Program} {w : World} {K : PySem.W.Frag} {mg : Str → Option Value} {base : Heap} {CR CL : Addr}
section
variable {σ : L2.St} {H : Hp} {t0 t1 t2 ta tb te : TE} {D : Ends} {tz : TS} {E : XK}
theorem q_road {i : Nat} {c : Chart} {b : Int} {L l : Addr} {most : Int} {line : List Int} (h0 : EvD K t0 σ H (eChart c)) (h1 : EvD K t1 σ H (eBox b)) (h2 : Ev t2 σ H (.ref L)) (hL : LetAt CL H L l most line)
    (k : ∀ x q H', H x = none → H q = none → Ex H H' → RS K CR CL H' x q L l most ⟨b, line, []⟩ → tz D (σ.set i (some (.ref x))) H') : tSeq (tAsg (tMake CR (spRInit K CR) [] E (tCons t0 (tCons t1 (tCons t2 tNil)))) (gName i)) tz D σ H :=
  h0 H (Ex.refl H) _ fun v H1 e1 hv => h1 H1 e1 _ fun u H2 e2 hu => h2 H2 (e1.trans e2) _ fun H3 e3 => fun x dx nx ndx nex => by
    have eH := (e1.trans e2).trans e3
    have eN : Ex H3 (upd (upd H3 dx (.own x)) x (.ins CR dx [])) := fun a o ha => by
      rw [upd_ne (ne_of_none ha nx), upd_ne (ne_of_none ha ndx)]
      exact ha
    refine ⟨x, dx, v, u, L, c, b, rfl, upd_same, mv hv ((e2.trans e3).trans eN), mv hu (e3.trans eN), fun H' q sz hx hsz nq hq kp => ⟨rfl, ?_⟩⟩
    have nqx : q ≠ x := fun e => by
      rw [e, upd_same] at nq
      cases nq
    have nq3 : H3 q = none := by
      by_cases z : q = dx
      · rw [upd_ne nqx, z, upd_same] at nq
        cases nq
      · rw [upd_ne nqx, upd_ne z] at nq
        exact nq
    have eF : Ex H3 H' := fun a o ha => kp a o (eN a o ha) (ne_of_none ha nx)
    refine k x q H' (fresh_back eH nx) (fresh_back eH nq3) (eH.trans eF) ⟨⟨dx, sz, u, hx, hsz, mv hu (e3.trans eF)⟩, ⟨[], hq, .nil⟩, hL.ex (eH.trans eF), fun e => ?_, fun e => ?_⟩
    · rw [e, eH _ _ hL.ls] at nq3
      cases nq3
    · obtain ⟨dL, z⟩ := hL.ob
      rw [e, eH _ _ z] at nx
      cases nx
theorem s_retPair {d : PyData} {q : Addr} (h1 : EvD K t1 σ H d) (h2 : Ev t2 σ H (.ref q)) (k : ∀ p v H', Ex H H' → H p = none → H' p = some (.tup [v, .ref q]) → Dp K H' v d → D.rt (.ref p) H') : tRet (tTup (tCons t1 (tCons t2 tNil))) D σ H :=
  h1 H (Ex.refl H) _ fun v H1 e1 hv => h2 H1 e1 _ fun H2 e2 => ⟨by show 2 ≤ sizeLine; decide, fun p np => k p v _ ((e1.trans e2).trans (Ex.new np)) (fresh_back (e1.trans e2) np) upd_same (mv hv (e2.trans (Ex.new np)))⟩
theorem el_catV {a b : Addr} {xs ys : List V} (h1 : Ev ta σ H (.ref a)) (ha : H a = some (.lst xs)) (h2 : Ev tb σ H (.ref b)) (hb : H b = some (.lst ys)) (hz : xs.length + ys.length ≤ 100000) : EvL (tOp rCat ta tb) σ H (xs ++ ys) := fun H1 e Q q =>
  h1 H1 e _ fun H2 e2 => h2 H2 (e.trans e2) _ fun H3 e3 => ⟨a, b, _, _, rfl, rfl, ((e.trans e2).trans e3) _ _ ha, ((e.trans e2).trans e3) _ _ hb, sz_of hz, fun p np => q p _ (fresh_back (e2.trans e3) np) ((e2.trans e3).trans (Ex.new np)) upd_same⟩
theorem el_sorted {ns : List Int} (h : EvL te σ H (ns.map V.int)) : EvL (tCB (rSortedI K) (tCons te tNil)) σ H ((sortF ns).map V.int) := fun H1 e Q q =>
  h H1 e _ fun p H2 np e2 hp => ⟨p, ns, rfl, SqL.of hp, fun ms p2 hm ho np2 => by
    rw [sort_eq hm ho]
    exact q p2 _ (fresh_back e2 np2) (e2.trans (Ex.new np2)) upd_same⟩
theorem evd_boxes {x q L l : Addr} {most : Int} {s : Pst} (rc : RoadC K CR) (R : RS K CR CL H x q L l most s) (h : Ev ta σ H (.ref x)) : EvD K (tFld K ta "boxes") σ H (eBox s.box) := by
  obtain ⟨dx, sz, bx, h1, h2, h3⟩ := R.ob
  exact evd_of (ev_fld h h1 rc.cl rc.nBoxes (rf_boxes _ _ _ _)) h3
theorem ev_record {x q L l : Addr} {most : Int} {s : Pst} (rc : RoadC K CR) (R : RS K CR CL H x q L l most s) (h : Ev ta σ H (.ref x)) : Ev (tFld K ta "record") σ H (.ref q) := by
  obtain ⟨dx, sz, bx, h1, h2, h3⟩ := R.ob
  exact ev_fld h h1 rc.cl rc.nRecord (rf_record _ _ _ _)
end
structure PassArg where
  chart : Chart
  stand : Stand
  door : Int
  line : List Int
  n : Nat
structure PassArg.ok (x : PassArg) : Prop where
  chart : ChartOk x.chart
  names : nol x.chart.names = true
  stand : StandOk x.chart.rooms x.n x.stand
  n : x.n ≤ 900
  d0 : 0 ≤ x.door
  d1 : x.door < x.chart.doors.length
def spPassed (K : PySem.W.Frag) (CL : Addr) : Sp := fun vs H Q _ => ∃ (x : PassArg) (v u : V) (L l : Addr), vs = [v, u, .int x.door, .ref L] ∧ Dp K H v (eChart x.chart) ∧ Dp K H u (eStand x.stand) ∧ LetAt CL H L l x.chart.most x.line ∧ x.ok ∧
  ∀ (H' : Hp) (p q : Addr) (sv : V) (rs : List V), Ch l H H' → LetAt CL H' L l x.chart.most (passedF x.chart x.stand x.door x.line).line → H' p = some (.tup [sv, .ref q]) → Dp K H' sv (eStand (passedF x.chart x.stand x.door x.line).stand) →
    H q = none → H' q = some (.lst rs) → DpAll K H' rs ((passedF x.chart x.stand x.door x.line).told.map eEnt) → Q (.ref p) H'
set_option maxHeartbeats 1000000 in
theorem cal_passed (T : Txt mg) (rc : RoadC K CR) (F : DefAt K mg "passed" s_passed ["chart", "stand", "door", "letters"]) (c_Road : C8.Mak P w K mg base 1 "Road" CR (spRInit K CR) []) (c_Road_step : C8.Met P w K mg base 3 CR "step" (spStep K CR CL) [])
    (c_hall_over : C8.Cal P w K mg base 3 "hall_over" (spHall K) []) (c_goings_out : C8.Cal P w K mg base 3 "goings_out" (spOut K) []) (c_keeping : C8.Cal P w K mg base 4 "keeping" (spKeeping K) []) (c_goings_in : C8.Cal P w K mg base 9 "goings_in" (spGo K 5) []) (c_goals_of : C8.Cal P w K mg base 1 "goals_of" (spGoals K) []) :
    C8.Cal P w K mg base 10 "passed" (spPassed K CL) [] := by
  refine cal_of F sc_passed (fun vs H Q E ⟨_, _, _, _, _, e, _⟩ => by rw [e]; rfl) (fun f cdv A outer s H vs Q E hr h => ?_)
  obtain ⟨⟨c, S, dk, line, n⟩, v, u, L, l, rfl, hc, hS, hL, ok, k⟩ := h
  obtain ⟨cok, hnm, sok, hn9, d0, d1⟩ := ok
  dsimp only at hc hS hL cok hnm sok hn9 d0 d1 k
  have dok := cok.doors dk d0 d1
  have rok := cok.rooms
  have hmost := cok.most
  have hslen := sok.len
  refine ⟨_, (pss_cons (ps_set (i := 4) sc_passed.nd rfl (.inl rfl) (pe_ix ix_tup (pe_ix ix_tup (pv 0) pe_int (fun _ _ => rfl)) (pv 2) (fun _ _ => rfl)))
    (pss_cons (ps_set (i := 5) sc_passed.nd rfl (.inl rfl) (pe_ix ix_tup (pv 0) pe_int (fun _ _ => rfl)))
    (pss_cons (ps_set (i := 6) sc_passed.nd rfl (.inl rfl) (C8.pe_mk c_Road hr (by omega) (by rfl) (pa_cons (pv 0) (pa_cons (pe_ix ix_tup (pv 1) pe_int (fun _ _ => rfl)) (pa_cons (pv 3) pa_nil)))))
    (pss_cons (ps_expr (C8.pe_mt c_Road_step hr (by omega) (pv 6) (pa_cons pe_str (pa_cons (pv 2) (pa_cons (pe_tup pa_nil) pa_nil)))))
    (pss_cons (ps_if (pt_cmpR op_eq (pe_ix ix_tup (pv 4) pe_int (fun _ _ => rfl)) pe_str (nomark _)) (pss_cons (ps_expr (C8.pe_mt c_Road_step hr (by omega) (pv 6) (pa_cons pe_str (pa_cons (pv 2) (pa_cons (pe_ix ix_tup (pv 4) pe_int (fun _ _ => rfl)) pa_nil)))))
    (pss_one (ps_ret (pe_tup (pa_cons (pe_tup (pa_cons (pe_ix ix_tup (pv 1) pe_int (fun _ _ => rfl)) (pa_cons (pe_fld (pv 6) rfl) (pa_cons (pe_ix ix_tup (pv 1) pe_int (fun _ _ => rfl)) pa_nil)))) (pa_cons (pe_fld (pv 6) rfl) pa_nil)))))) pss_nil)
    (pss_cons (ps_set (i := 7) sc_passed.nd rfl (.inl rfl) (C8.pe_c c_hall_over hr (by omega) (by rfl) (pa_cons (pv 5) (pa_cons (pe_ix ix_tup (pv 4) pe_int (fun _ _ => rfl)) (pa_cons (pe_ix ix_tup (pv 4) pe_int (fun _ _ => rfl)) pa_nil)))))
    (pss_cons (ps_set (i := 8) sc_passed.nd rfl (.inr rfl) (C8.pe_c c_goings_out hr (by omega) (by rfl) (pa_cons (pv 5) (pa_cons (pv 7) (pa_cons (pe_ix ix_tup (pv 1) pe_int (fun _ _ => rfl)) pa_nil)))))
    (pss_cons (ps_set (i := 9) sc_passed.nd rfl (.inl rfl) (C8.pe_c c_keeping hr (by omega) (by rfl) (pa_cons (pv 5) (pa_cons (pe_ix ix_tup (pv 1) pe_int (fun _ _ => rfl)) (pa_cons (pv 8) (pa_cons (pe_ix ix_tup (pv 1) pe_int (fun _ _ => rfl)) pa_nil))))))
    (pss_cons (ps_for PassesOwn.never rfl (pi_list (pv 8)) (pg_name (i := 10) sc_passed.nd rfl (.inl rfl)) (pss_one (ps_expr (C8.pe_mt c_Road_step hr (by omega) (pv 6) (pa_cons pe_str (pa_cons (pv 10) (pa_cons (pe_ix ix_tup (pe_ix ix_tup (pv 5) (pv 10) (fun _ _ => rfl)) pe_int (fun _ _ => rfl)) pa_nil)))))))
    (pss_cons (ps_expr (C8.pe_mt c_Road_step hr (by omega) (pv 6) (pa_cons pe_str (pa_cons (pv 2) (pa_cons (pe_ix ix_tup (pv 4) pe_int (fun _ _ => rfl)) pa_nil)))))
    (pss_cons (ps_set (i := 11) sc_passed.nd rfl (.inl rfl) (C8.pe_c c_goings_in hr (by omega) (by rfl) (pa_cons (pv 5) (pa_cons (pv 7) (pa_cons (C8.pe_c c_goals_of hr (by omega) (by rfl) (pa_cons (pv 0) (pa_cons (pv 9) (pa_cons (pv 2) pa_nil)))) pa_nil)))))
    (pss_cons (ps_for PassesOwn.never rfl (pi_list (pv 11)) (pg_name (i := 10) sc_passed.nd rfl (.inl rfl)) (pss_one (ps_expr (C8.pe_mt c_Road_step hr (by omega) (pv 6) (pa_cons pe_str (pa_cons (pv 10) (pa_cons (pe_ix ix_tup (pe_ix ix_tup (pv 5) (pv 10) (fun _ _ => rfl)) pe_int (fun _ _ => rfl)) pa_nil)))))))
    (pss_cons (ps_setLc (i := 12) (own := [("room", 10)]) (g := gName 10) (by rfl) sc_passed.nd rfl rfl (sw_true rfl rfl rfl (by decide +kernel)) (pi_tup (pe_ix ix_tup (pv 1) pe_int (fun _ _ => rfl))) (blkOk_by (own := [("room", 10)]) (N := N_passed) (sc := defScope s_passed) (by decide +kernel)) (fun _ _ _ _ _ => pg_name (i := 10) sc_passed.nd rfl (.inl rfl)) (fun _ _ _ _ _ => (pts_one (pt_cmpR (r := rIn K true) op_notIn_seq (pv 10) (pv 8) (by rfl)))) (fun _ _ _ _ _ => (pv 10)))
    (pss_one (ps_ret (pe_tup (pa_cons (pe_tup (pa_cons (pe_callTy call_tuple_of (by rfl) T.m_tuple (by decide +kernel) (pa_cons (pe_callB cr_sortedI (by rfl) T.m_sorted (by decide +kernel) (pa_cons (pe_op op_cat (pv 12) (pv 11)) pa_nil)) pa_nil)) (pa_cons (pe_fld (pv 6) rfl) (pa_cons (pv 9) pa_nil)))) (pa_cons (pe_fld (pv 6) rfl) pa_nil)))))))))))))))))), ?_⟩
  generalize hdd : doorAt c.doors dk = d at dok
  have hde : ∀ {σ : L2.St} {H1 : Hp}, EvD K (tVar 0) σ H1 (eChart c) → Ev (tVar 2) σ H1 (.int dk) → EvD K (tOp (rIxT K) (tOp (rIxT K) (tVar 0) (tC (.int 6))) (tVar 2)) σ H1 (eDoor d) := fun h0 h1 => by
    rw [← hdd]
    exact evd_door h0 h1 d0 d1
  -- move, rooms, road
  refine q_asgD (hde (evd_var rfl hc) (ev_var rfl)) fun mvv H1 e1 hmv => ?_
  refine q_asgD (evd_rooms (evd_var rfl (mv hc e1))) fun rv H2 e2 hrv => ?_
  have e12 := e1.trans e2
  refine q_road (evd_var rfl (mv hc e12)) (evd_box (evd_var rfl (mv hS e12))) (ev_var rfl) (hL.ex e12) fun x q H3 nx nq e3 R3 => ?_
  have e13 := e12.trans e3
  have nx0 := fresh_back e12 nx
  have nq0 := fresh_back e12 nq
  -- what stood stands, behind whatever road and letters do
  have chl : ∀ H', Ch3 x q l H3 H' → Ch l H H' := fun H' c3 b o hb hbl => c3 b o (e13 _ _ hb) (ne_of_none hb nx0) (ne_of_none hb nq0) hbl
  -- road.step("door", door, ())
  refine q_step (ds := []) R3 (by omega) (Nat.zero_le _) (by show 0 + 1 + 0 ≤ 90000; omega) (ev_var rfl) ev_c (ev_var rfl) (evd_tup ead_nil (Nat.zero_le _)) fun H4 c4 R4 => ?_
  have t4 : TK H H4 := (tk_ex e13).trans (R3.tk c4)
  have hc4 := mt hc t4 (nol_eChart hnm)
  have hS4 := mt hS t4 (nol_eStand S)
  have hmv4 := mt hmv ((tk_ex (e2.trans e3)).trans (R3.tk c4)) (nol_eDoor d)
  have hrv4 := mt hrv ((tk_ex e3).trans (R3.tk c4)) (nol_eRooms c.rooms)
  have es0 : stepF c.most ⟨S.box, line, []⟩ "door" dk [] = passStart c S dk line := rfl
  rw [es0] at R4
  have hst : (passStart c S dk line).told.length = 1 := by
    unfold passStart
    rw [step_told]
    rfl
  have hwayE : ∀ {σ : L2.St} {H' : Hp}, EvD K (tVar 4) σ H' (eDoor d) → Ev (tOp (rIxT K) (tVar 4) (tC (.int 4))) σ H' (.str (eWay d.way)) := fun h => ev_str (evd_ix h ev_c ⟨by decide, rfl⟩)
  have hdeE : ∀ {σ : L2.St} {H' : Hp}, EvD K (tVar 4) σ H' (eDoor d) → EvD K (tOp (rIxT K) (tVar 4) (tC (.int 3))) σ H' (eDeeds d.deeds) := fun h => evd_ix h ev_c ⟨by decide, rfl⟩
  have hdl := dok.deeds
  refine q_when (et_test (ev_eqS (hwayE (evd_var rfl hmv4)) ev_c)) (fun hw H5 e5 => ?_) fun hw H5 e5 => ?_
  · -- the way is stay
    rw [eWay_stay] at hw
    have hway : d.way = .stay := of_decide_eq_true hw
    refine q_step (ds := d.deeds) (R4.ex e5) (by omega) (by omega) (by rw [hst]; omega) (ev_var rfl) ev_c (ev_var rfl) (hdeE (evd_var rfl (mv hmv4 e5))) fun H6 c6 R6 => ?_
    have t6 : TK H4 H6 := (tk_ex e5).trans ((R4.ex e5).tk c6)
    have hS6 := mt hS4 t6 (nol_eStand S)
    have hg : passedF c S dk line = gotOf S.opening S.kept (stepF c.most (passStart c S dk line) "through" dk d.deeds) := by
      unfold passedF
      rw [hdd, if_pos hway]
    rw [hg] at k
    refine s_retPair (d := eStand ⟨S.opening, (stepF c.most (passStart c S dk line) "through" dk d.deeds).box, S.kept⟩) (evd_tup (ead_cons (evd_open (S := S) (evd_var rfl hS6)) (ead_cons (evd_boxes rc R6 (ev_var rfl)) (ead_cons (evd_kept (S := S) (evd_var rfl hS6)) ead_nil))) (by show 3 ≤ 100000; omega)) (ev_record rc R6 (ev_var rfl)) fun p sv H7 e7 np hp hsv => ?_
    obtain ⟨rs, hq, hrs⟩ := R6.tl
    exact k H7 p q sv rs ((chl H6 ((c4.trans (ch3_ex e5)).trans c6)).trans (ch_ex e7)) (R6.le.ex e7) hp hsv nq0 (e7 _ _ hq) (mva hrs e7)
  · rw [eWay_stay] at hw
    have hway : ¬ d.way = .stay := of_decide_eq_false hw
    have hgi := dok.goal hway
    have hg : passedF c S dk line = gotOf (sortF (passStay S (passLeft c S dk) ++ passGone c S dk)) (passKept c S dk) (passGo c S dk line (underF c dk) (passLeft c S dk) (passGone c S dk)) := by
      unfold passedF
      rw [hdd, if_neg hway]
    rw [hg] at k
    have R5 := R4.ex e5
    have hmv5 := mv hmv4 e5
    have hrv5 := mv hrv4 e5
    have hS5 := mv hS4 e5
    have hc5 := mv hc4 e5
    have aO : aRoom c.rooms d.room := aRoom_of rok dok.room.1 dok.room.2
    have hun : underF c dk = hallF c.rooms d.room d.goal := by
      unfold underF
      rw [hdd]
    have hu : ∀ a, underF c dk = some a → aRoom c.rooms a := fun a e => by
      rw [hun] at e
      have z := hall_in dok.room e
      exact aRoom_of rok z.1 z.2
    -- under
    refine q_asg (v := optV (underF c dk)) (by
      rw [hun]
      exact ev_opt (evd_call (c.rooms, d.room, d.goal) (ead_cons (evd_var rfl hrv5) (ead_cons (evd_ix (evd_var rfl hmv5) ev_c ⟨by decide, rfl⟩) (ead_cons (evd_is (evd_ix (evd_var rfl hmv5) ev_c ⟨by decide, rfl⟩) (eGoal_int hway)) ead_nil))) aO)) fun H6 e6 => ?_
    have e56 := e6
    -- left
    refine q_asgL (evl_call (c.rooms, underF c dk, S.opening) (ead_cons (evd_var rfl (mv hrv5 e6)) (ead_cons (evd_of (ev_var rfl) (opt_dp _)) (ead_cons (evd_open (evd_var rfl (mv hS5 e6))) ead_nil))) ⟨hu, by show S.opening.length ≤ 40000; omega⟩) fun pL H7 npL e7 hpL => ?_
    have hpL : H7 pL = some (.lst ((passLeft c S dk).map V.int)) := hpL
    have e57 := e6.trans e7
    have hlm : ∀ r ∈ passLeft c S dk, 0 ≤ r ∧ r < c.rooms.length := fun r hr => sok.inr r (left_mem hr)
    have hll : (passLeft c S dk).length ≤ n := Nat.le_trans (left_len _ _ _) hslen
    -- kept
    refine q_asgD (evd_call (⟨c.rooms, S.opening, passLeft c S dk, S.kept⟩ : KeepsArg) (ead_cons (evd_var rfl (mv hrv5 e57)) (ead_cons (evd_open (evd_var rfl (mv hS5 e57))) (ead_cons (evd_var rfl (dp_lints hpL)) (ead_cons (evd_kept (evd_var rfl (mv hS5 e57))) ead_nil)))) ⟨rok, ⟨sok.inr, by show S.opening.length ≤ 40000; omega⟩, sok.kept⟩) fun kv H8 e8 hkv => ?_
    have hkv : Dp K H8 kv (eKept (passKept c S dk)) := hkv
    have e58 := e57.trans e8
    have R8 := R5.ex e58
    have npL5 := fresh_back e6 npL
    have hpL8 := e8 _ _ hpL
    have npLx : pL ≠ x := by
      obtain ⟨dx, sz, bx, z, _⟩ := R5.ob
      exact (ne_of_none z npL5).symm
    have npLq : pL ≠ q := by
      obtain ⟨rs, z, _⟩ := R5.tl
      exact (ne_of_none z npL5).symm
    have npLl : pL ≠ l := (ne_of_none R5.le.ls npL5).symm
    -- for room in left: road.step("out", room, rooms[room][6])
    refine q_forLn (ev_var rfl) (SqL.of hpL8) (fun i σ' H' => Ch3 x q l H8 H' ∧ RS K CR CL H' x q L l c.most (outsF c.most c.rooms (passStart c S dk line) ((passLeft c S dk).take i)) ∧ ∃ y, σ' = [some v, some u, some (.int dk), some (.ref L), some mvv, some rv, some (.ref x), some (optV (underF c dk)), some (.ref pL), some kv, y, none, none])
      (fun H9 e9 => ⟨ch3_ex e9, R8.ex e9, _, rfl⟩) (fun i σ' H' _ p => SqL.of (p.1 _ _ hpL8 npLx npLq npLl)) (fun i y σ' H' gy ⟨c9, R9, z, es⟩ => ?_) fun σ' H' ⟨c9, R9, z, es⟩ => ?_
    · subst es
      obtain ⟨r, gr, rfl⟩ : ∃ r, (passLeft c S dk)[i]? = some r ∧ y = .int r := by
        rw [List.getElem?_map] at gy
        cases cc : (passLeft c S dk)[i]? with
        | none =>
          rw [cc] at gy
          cases gy
        | some r =>
          rw [cc] at gy
          exact ⟨r, rfl, (Option.some.inj gy).symm⟩
      have hrr := hlm r (List.mem_of_getElem? gr)
      have hro := rok.outs r hrr.1 hrr.2
      have hb := outs_told rok c.most ((passLeft c S dk).take i) (passStart c S dk line) fun a ha => hlm a (List.mem_of_mem_take ha)
      rw [hst, List.length_take] at hb
      have t9 : TK H5 H' := (tk_ex e58).trans (R8.tk c9)
      refine s_step (ds := (roomAt c.rooms r).outs) R9 (by omega) (by omega) (by omega) (ev_var rfl) ev_c (ev_var rfl) (evd_ix (evd_ix (evd_var rfl (mt hrv5 t9 (nol_eRooms _))) (ev_var rfl) (at_room hrr.1 hrr.2)) ev_c ⟨by decide, rfl⟩) fun HA cA RA => ?_
      refine ⟨c9.trans cA, ?_, _, rfl⟩
      have ef : outsF c.most c.rooms (passStart c S dk line) ((passLeft c S dk).take (i + 1)) = stepF c.most (outsF c.most c.rooms (passStart c S dk line) ((passLeft c S dk).take i)) "out" r (roomAt c.rooms r).outs := by
        rw [take_snoc gr]
        unfold outsF
        rw [List.foldl_append]
        rfl
      rw [ef]
      exact RA
    · subst es
      rw [List.length_map, List.take_length] at R9
      have t9 : TK H5 H' := (tk_ex e58).trans (R8.tk c9)
      have hbo := outs_told rok c.most (passLeft c S dk) (passStart c S dk line) hlm
      rw [hst] at hbo
      -- road.step("through", door, move[3])
      refine q_step (ds := d.deeds) R9 (by omega) (by omega) (by omega) (ev_var rfl) ev_c (ev_var rfl) (hdeE (evd_var rfl (mt hmv5 t9 (nol_eDoor d)))) fun HA cA RA => ?_
      have tA : TK H5 HA := t9.trans (R9.tk cA)
      have c8A : Ch3 x q l H8 HA := c9.trans cA
      have hkvA := mt hkv (R8.tk c8A) (nol_eKept _)
      have hrvA := mt hrv5 tA (nol_eRooms _)
      have hcA := mt hc5 tA (nol_eChart hnm)
      have hSA := mt hS5 tA (nol_eStand S)
      have hklen : (passKept c S dk).length = c.rooms.length := by
        unfold passKept keepingF
        rw [List.length_map, List.length_range]
      have hgl : (passGone c S dk).length ≤ 42 := goings_len rok hu
      have hgm : ∀ r ∈ passGone c S dk, 0 ≤ r ∧ r < c.rooms.length := fun r hr => goings_mem rok hu hr
      -- gone
      refine q_asgL (xs := (passGone c S dk).map V.int) (evl_call (c.rooms, underF c dk, goalsF (passKept c S dk) (doorAt c.doors dk)) (ead_cons (evd_var rfl hrvA) (ead_cons (evd_of (ev_var rfl) (opt_dp _)) (ead_cons (evd_ofL (evl_call (⟨c, passKept c S dk, dk⟩ : GoalArg) (ead_cons (evd_var rfl hcA) (ead_cons (evd_var rfl hkvA) (ead_cons (evd_int (ev_var rfl)) ead_nil))) ⟨cok, hklen, d0, d1⟩)) ead_nil))) ⟨rok, hu, ?_⟩) fun pG HB npG eB hpG => ?_
      · cases hz : underF c dk with
        | none => exact Nat.le_refl 5
        | some a =>
          have ha := hu a hz
          have z := rok.depth a ha.1 ha.2.1
          show (4 - dep c.rooms a).toNat ≤ 5
          omega
      have RB := RA.ex eB
      have npGx : pG ≠ x := by
        obtain ⟨dx, sz, bx, z, _⟩ := RA.ob
        exact (ne_of_none z npG).symm
      have npGq : pG ≠ q := by
        obtain ⟨rs, z, _⟩ := RA.tl
        exact (ne_of_none z npG).symm
      have npGl : pG ≠ l := (ne_of_none RA.le.ls npG).symm
      have hst2 : (stepF c.most (outsF c.most c.rooms (passStart c S dk line) (passLeft c S dk)) "through" dk d.deeds).told.length ≤ 4 * n + 5 := by
        rw [step_told]
        omega
      -- for room in gone: road.step("in", room, rooms[room][5])
      refine q_forLn (ev_var rfl) (SqL.of hpG) (fun i σ' H' => Ch3 x q l HB H' ∧ RS K CR CL H' x q L l c.most (insF c.most c.rooms (stepF c.most (outsF c.most c.rooms (passStart c S dk line) (passLeft c S dk)) "through" dk d.deeds) ((passGone c S dk).take i)) ∧ ∃ y, σ' = [some v, some u, some (.int dk), some (.ref L), some mvv, some rv, some (.ref x), some (optV (underF c dk)), some (.ref pL), some kv, y, some (.ref pG), none])
        (fun H9 e9 => ⟨ch3_ex e9, RB.ex e9, _, rfl⟩) (fun i σ' H' _ p => SqL.of (p.1 _ _ hpG npGx npGq npGl)) (fun i y σ' HC gy ⟨cC, RC, z, es⟩ => ?_) fun σ' HC ⟨cC, RC, z, es⟩ => ?_
      · subst es
        obtain ⟨r, gr, rfl⟩ : ∃ r, (passGone c S dk)[i]? = some r ∧ y = .int r := by
          rw [List.getElem?_map] at gy
          cases cc : (passGone c S dk)[i]? with
          | none =>
            rw [cc] at gy
            cases gy
          | some r =>
            rw [cc] at gy
            exact ⟨r, rfl, (Option.some.inj gy).symm⟩
        have hrr := hgm r (List.mem_of_getElem? gr)
        have hri := rok.ins r hrr.1 hrr.2
        have hb := ins_told rok c.most ((passGone c S dk).take i) (stepF c.most (outsF c.most c.rooms (passStart c S dk line) (passLeft c S dk)) "through" dk d.deeds) fun a ha => hgm a (List.mem_of_mem_take ha)
        rw [List.length_take] at hb
        have tC2 : TK HA HC := (tk_ex eB).trans (RB.tk cC)
        refine s_step (ds := (roomAt c.rooms r).ins) RC (by omega) (by omega) (by omega) (ev_var rfl) ev_c (ev_var rfl) (evd_ix (evd_ix (evd_var rfl (mt hrvA tC2 (nol_eRooms _))) (ev_var rfl) (at_room hrr.1 hrr.2)) ev_c ⟨by decide, rfl⟩) fun HD cD RD => ?_
        refine ⟨cC.trans cD, ?_, _, rfl⟩
        have ef : ∀ s0, insF c.most c.rooms s0 ((passGone c S dk).take (i + 1)) = stepF c.most (insF c.most c.rooms s0 ((passGone c S dk).take i)) "in" r (roomAt c.rooms r).ins := fun s0 => by
          rw [take_snoc gr]
          unfold insF
          rw [List.foldl_append]
          rfl
        rw [ef]
        exact RD
      · subst es
        rw [List.length_map, List.take_length] at RC
        have tC2 : TK HA HC := (tk_ex eB).trans (RB.tk cC)
        have hSC := mt hSA tC2 (nol_eStand S)
        have hkvC := mt hkvA tC2 (nol_eKept _)
        have c5C : Ch3 x q l H5 HC := (((ch3_ex e58).trans c8A).trans (ch3_ex eB)).trans cC
        have hpLC : HC pL = some (.lst ((passLeft c S dk).map V.int)) := cC _ _ (eB _ _ (c8A _ _ hpL8 npLx npLq npLl)) npLx npLq npLl
        have hpGC : HC pG = some (.lst ((passGone c S dk).map V.int)) := cC _ _ hpG npGx npGq npGl
        -- opening = [room for room in stand[0] if room not in left]
        refine q_asgL (xs := (passStay S (passLeft c S dk)).map V.int) (el_lcT (fun r => !decide (r ∈ passLeft c S dk)) V.int (evd_open (evd_var rfl hSC)) (by omega) (fun a => rfl) (fun r H1 e1 _ => et_test (ev_niL (ev_var rfl) (evd_var rfl (dp_lints (e1 _ _ hpLC))))) (fun r H1 e1 _ _ => ev_var rfl)) fun pO HD npO eD hpO => ?_
        have RD := RC.ex eD
        have z1 := List.length_filter_le (fun r => !decide (r ∈ passLeft c S dk)) S.opening
        refine s_retPair (d := eStand ⟨sortF (passStay S (passLeft c S dk) ++ passGone c S dk), (passGo c S dk line (underF c dk) (passLeft c S dk) (passGone c S dk)).box, passKept c S dk⟩)
          (evd_tup (ead_cons (evd_tupL (evd_ofL (el_sorted (ns := passStay S (passLeft c S dk) ++ passGone c S dk) (by
            rw [List.map_append]
            refine el_catV (ev_var rfl) hpO (ev_var rfl) (eD _ _ hpGC) ?_
            rw [List.length_map, List.length_map]
            show (S.opening.filter _).length + _ ≤ 100000
            omega)))) (ead_cons (evd_is (evd_boxes rc RD (ev_var rfl)) (by unfold passGo; rw [hdd])) (ead_cons (evd_var rfl (mv hkvC eD)) ead_nil))) (by show 3 ≤ 100000; omega)) (ev_record rc RD (ev_var rfl)) fun p sv HE eE np hp hsv => ?_
        have hgo : passGo c S dk line (underF c dk) (passLeft c S dk) (passGone c S dk) = insF c.most c.rooms (stepF c.most (outsF c.most c.rooms (passStart c S dk line) (passLeft c S dk)) "through" dk d.deeds) (passGone c S dk) := by
          unfold passGo
          rw [hdd]
        obtain ⟨rs, hq, hrs⟩ := RD.tl
        have hle := RD.le
        rw [← hgo] at hrs hle
        exact k HE p q sv rs ((chl HC ((c4.trans (ch3_ex e5)).trans c5C)).trans (ch_ex (eD.trans eE))) (hle.ex eE) hp hsv nq0 (eE _ _ hq) (mva hrs eE)
end
end Nh
/-! NhTurn: a turn. -/
namespace Nh
open PySem PySem.Spec PyProof.Rows L2 Evl
theorem ansGo_lt (S : Stand) (room event : Int) : ∀ (ds : List Door) (i : Nat) {k : Int}, ansGo S room event ds i = some k → (i : Int) ≤ k ∧ k < (i : Int) + ds.length
  | [], _, _, h => by cases h
  | d :: ds, i, k, h => by
    have h' : (if doorFits S room event d = true then some (i : Int) else ansGo S room event ds (i + 1)) = some k := h
    rw [List.length_cons]
    split at h'
    · have e := Option.some.inj h'
      omega
    · have z := ansGo_lt S room event ds (i + 1) h'
      omega
theorem ans_lt {c : Chart} {S : Stand} {room event k : Int} (h : ansF c S room event = some k) : 0 ≤ k ∧ k < c.doors.length := by
  have z := ansGo_lt S room event c.doors 0 h
  omega
theorem chosen_mem {c : Chart} {S : Stand} {event k : Int} (h : k ∈ chosenF c S event) : 0 ≤ k ∧ k < c.doors.length := by
  obtain ⟨p, hp, e⟩ := List.mem_map.mp h
  obtain ⟨r, _, e2⟩ := List.mem_filterMap.mp (List.mem_filter.mp hp).1
  cases z : ansF c S r event with
  | none =>
    rw [z] at e2
    cases e2
  | some d =>
    rw [z] at e2
    have e3 := Option.some.inj e2
    subst e3
    subst e
    exact ans_lt z
theorem chosen_len (c : Chart) (S : Stand) (event : Int) : (chosenF c S event).length ≤ S.opening.length := by
  unfold chosenF
  rw [List.length_map]
  have z1 := List.length_filter_le (fun p => !((answersF c S event).map Prod.fst).any (aheadF c p.1)) (answersF c S event)
  have z2 := List.length_filterMap_le (fun r => (ansF c S r event).map fun d => (r, d)) S.opening
  unfold answersF at *
  omega
/-- what a turn's stand and record are bounded by -/
theorem turnGo_ok {c : Chart} (cok : ChartOk c) : ∀ (ks : List Int) (i : Nat) (S : Stand) (r : List Ent) (lf line : List Int), (∀ k ∈ ks, 0 ≤ k ∧ k < c.doors.length) → i + ks.length ≤ 20 → StandOk c.rooms (20 + 42 * i) S → r.length ≤ 1 + 3800 * i →
    StandOk c.rooms 900 (turnGo c ks S r lf line).stand ∧ (turnGo c ks S r lf line).told.length ≤ 80000
  | [], i, S, r, lf, line, _, hi, so, hr => by
    rw [List.length_nil] at hi
    exact ⟨⟨so.inr, by have z := so.len; show S.opening.length ≤ 900; omega, so.kept, fun row h => Nat.le_trans (so.rows row h) (by omega)⟩, by show r.length ≤ 80000; omega⟩
  | k :: ks, i, S, r, lf, line, hk, hi, so, hr => by
    rw [List.length_cons] at hi
    have hks : ∀ x ∈ ks, 0 ≤ x ∧ x < c.doors.length := fun x h => hk x (List.mem_cons_of_mem _ h)
    have hkk := hk k List.mem_cons_self
    have e : turnGo c (k :: ks) S r lf line = if (doorAt c.doors k).room ∈ lf then turnGo c ks S r lf line else turnGo c ks (passedF c S k line).stand (r ++ (passedF c S k line).told) (lf ++ (passedF c S k line).told.filterMap outOf) (passedF c S k line).line := rfl
    rw [e]
    split
    · exact turnGo_ok cok ks (i + 1) S r lf line hks (by omega) ⟨so.inr, by have z := so.len; omega, so.kept, fun row h => Nat.le_trans (so.rows row h) (by omega)⟩ (by omega)
    · have hpo := passed_ok (line := line) cok so hkk.1 hkk.2
      have hpt := passed_told (line := line) cok so hkk.1 hkk.2
      refine turnGo_ok cok ks (i + 1) _ _ _ _ hks (by omega) ⟨hpo.inr, by have z := hpo.len; omega, hpo.kept, fun row h => Nat.le_trans (hpo.rows row h) (by omega)⟩ ?_
      rw [List.length_append]
      omega
section
variable {P : Program} {w : World} {K : PySem.W.Frag} {mg : Str → Option Value} {base : Heap} {CR CL : Addr}
section
variable {σ : L2.St} {H : Hp} {t0 t1 t2 t3 ty td : TE} {D : Ends} {tz : TS} {E : XK}
theorem q_passed {i : Nat} {x : PassArg} {L l : Addr} (h0 : EvD K t0 σ H (eChart x.chart)) (h1 : EvD K t1 σ H (eStand x.stand)) (h2 : Ev t2 σ H (.int x.door)) (h3 : Ev t3 σ H (.ref L)) (hL : LetAt CL H L l x.chart.most x.line) (ok : x.ok)
    (k : ∀ (H' : Hp) (p q : Addr) (sv : V) (rs : List V), Ch l H H' → LetAt CL H' L l x.chart.most (passedF x.chart x.stand x.door x.line).line → H' p = some (.tup [sv, .ref q]) → Dp K H' sv (eStand (passedF x.chart x.stand x.door x.line).stand) →
      H q = none → H' q = some (.lst rs) → DpAll K H' rs ((passedF x.chart x.stand x.door x.line).told.map eEnt) → tz D (σ.set i (some (.ref p))) H') :
    tSeq (tAsg (tCall (spPassed K CL) [] E (tCons t0 (tCons t1 (tCons t2 (tCons t3 tNil))))) (gName i)) tz D σ H :=
  h0 H (Ex.refl H) _ fun v H1 e1 hv => h1 H1 e1 _ fun u H2 e2 hu => h2 H2 (e1.trans e2) _ fun H3 e3 => h3 H3 ((e1.trans e2).trans e3) _ fun H4 e4 => by
    have eH := ((e1.trans e2).trans e3).trans e4
    exact ⟨x, v, u, L, l, rfl, mv hv ((e2.trans e3).trans e4), mv hu (e3.trans e4), hL.ex eH, ok, fun H' p q sv rs c5 hl hp hs nq hq hr => k H' p q sv rs ((ch_ex eH).trans c5) hl hp hs (fresh_back eH nq) hq hr⟩
theorem et_din {r : Int} {d : Addr} {kvs : List (Key × V)} (h : Ev ty σ H (.int r)) (hd : Ev td σ H (.ref d)) (g : H d = some (.dK kvs)) : EvT (tB (tDIn ty td)) σ H (valV kvs (Sum.inl r : Key)).isSome := fun H1 e Q q =>
  h H1 e _ fun H2 e2 => hd H2 (e.trans e2) _ fun H3 e3 => ⟨d, _, rfl, DGet.k (k := Sum.inl r) (((e.trans e2).trans e3) _ _ g), _, rfl, q H3 (e2.trans e3)⟩
end
theorem q_asgLD {σ : L2.St} {H : Hp} {ta : TA} {D : Ends} {tz : TS} {ds : List PyData} {i : Nat} (h : EvAD K ta σ H ds) (hz : ds.length ≤ 100000) (k : ∀ p xs H1, H p = none → Ex H H1 → H1 p = some (.lst xs) → DpAll K H1 xs ds → tz D (σ.set i (some (.ref p))) H1) :
    tSeq (tAsg (tLst ta) (gName i)) tz D σ H := h H (Ex.refl H) _ fun vs H1 e1 hv => ⟨sz_of (by rw [dpa_len hv]; exact hz), fun p np => k p vs _ (fresh_back e1 np) (e1.trans (Ex.new np)) upd_same (mva hv (Ex.new np))⟩
/-- a turn on its way: S, r, lf, line: the stand, the record, what is left, the letters -/
structure TurnI (K : PySem.W.Frag) (CL : Addr) (c : Chart) (H0 H : Hp) (L l pr d pC : Addr) (ks : List Int) (cv sv : V) (S : Stand) (r : List Ent) (lf line : List Int) : Prop where
  ch : Ch l H0 H
  hc : Dp K H cv (eChart c)
  hS : Dp K H sv (eStand S)
  le : LetAt CL H L l c.most line
  rcd : ∃ rs, H pr = some (.lst rs) ∧ DpAll K H rs (r.map eEnt)
  dic : ∃ kvs, H d = some (.dK kvs) ∧ kvs.length ≤ r.length ∧ ∀ n : Int, (valV kvs (Sum.inl n : Key)).isSome = decide (n ∈ lf)
  lst : H pC = some (.lst (ks.map V.int))
theorem TurnI.ex {c : Chart} {H0 H H' : Hp} {L l pr d pC : Addr} {ks : List Int} {cv sv : V} {S : Stand} {r : List Ent} {lf line : List Int} (h : TurnI K CL c H0 H L l pr d pC ks cv sv S r lf line) (e : Ex H H') : TurnI K CL c H0 H' L l pr d pC ks cv sv S r lf line := by
  obtain ⟨h1, h2, h3, h4, ⟨rs, h5, h6⟩, ⟨kvs, h7, h8, h9⟩, h10⟩ := h
  exact ⟨h1.trans (ch_ex e), mv h2 e, mv h3 e, h4.ex e, ⟨rs, e _ _ h5, mva h6 e⟩, ⟨kvs, e _ _ h7, h8, h9⟩, e _ _ h10⟩
def entWord : Ent → Str
  | .num w _ => w
  | .say _ => "say"
  | .put _ => "put"
theorem evd_word {σ : L2.St} {H : Hp} {te : TE} {e : Ent} (h : EvD K te σ H (eEnt e)) : EvD K (tOp (rIxT K) te (tC (.int 0))) σ H (.str (entWord e)) := by
  cases e with
  | num w n => exact evd_ix h ev_c ⟨by decide, rfl⟩
  | say w => exact evd_ix h ev_c ⟨by decide, rfl⟩
  | put n => exact evd_ix h ev_c ⟨by decide, rfl⟩
theorem evd_str_word {σ : L2.St} {H : Hp} {i : Nat} {e : Ent} {x : V} (hx : Dp K H x (eEnt e)) (h : σ[i]? = some (some x) := by rfl) : Ev (tOp (rIxT K) (tVar i) (tC (.int 0))) σ H (.str (entWord e)) := ev_str (evd_word (evd_var h hx))
theorem out_of {e : Ent} (h : entWord e = "out") : ∃ n, e = .num "out" n := by
  cases e with
  | num w n =>
    have h' : w = "out" := h
    rw [h']
    exact ⟨n, rfl⟩
  | say w => exact absurd (show ("say" : Str) = "out" from h) (by decide +kernel)
  | put n => exact absurd (show ("put" : Str) = "out" from h) (by decide +kernel)
theorem out_none {e : Ent} (h : ¬ entWord e = "out") : outOf e = none := by
  cases e with
  | num w n =>
    unfold outOf
    exact if_neg h
  | say w => rfl
  | put n => rfl
structure TurnArg where
  chart : Chart
  stand : Stand
  event : Int
  line : List Int
def spTurn (K : PySem.W.Frag) (CL : Addr) : Sp := fun vs H Q _ => ∃ (x : TurnArg) (v u : V) (L l : Addr), vs = [v, u, .int x.event, .ref L] ∧ Dp K H v (eChart x.chart) ∧ Dp K H u (eStand x.stand) ∧ LetAt CL H L l x.chart.most x.line ∧ ChoArg.ok ⟨x.chart, x.stand, x.event⟩ ∧
  ∀ (H' : Hp) (p q : Addr) (sv : V) (rs : List V), Ch l H H' → LetAt CL H' L l x.chart.most (turnF x.chart x.stand x.event x.line).line → H' p = some (.tup [sv, .ref q]) → Dp K H' sv (eStand (turnF x.chart x.stand x.event x.line).stand) →
    H q = none → H' q = some (.lst rs) → DpAll K H' rs ((turnF x.chart x.stand x.event x.line).told.map eEnt) → Q (.ref p) H'
set_option maxHeartbeats 1000000 in
theorem cal_turn (F : DefAt K mg "turn" s_turn ["chart", "stand", "event", "letters"]) (c_chosen : C8.Cal P w K mg base 4 "chosen" (spChosen K) []) (c_passed : C8.Cal P w K mg base 10 "passed" (spPassed K CL) []) : C8.Cal P w K mg base 11 "turn" (spTurn K CL) [] := by
  refine cal_of F sc_turn (fun vs H Q E ⟨_, _, _, _, _, e, _⟩ => by rw [e]; rfl) (fun f cdv A outer s H vs Q E hr h => ?_)
  obtain ⟨⟨c, S, event, line⟩, v, u, L, l, rfl, hc, hS, hL, ⟨cok, hnm, sok, hnd⟩, k⟩ := h
  dsimp only at hc hS hL cok hnm sok hnd k
  have hcm : ∀ x ∈ chosenF c S event, 0 ≤ x ∧ x < c.doors.length := fun x hx => chosen_mem hx
  have hcl : (chosenF c S event).length ≤ 20 := Nat.le_trans (chosen_len c S event) sok.len
  have htf : turnF c S event line = turnGo c (chosenF c S event) S [.num "take" event] [] line := rfl
  refine ⟨_, (pss_cons (ps_set (i := 4) sc_turn.nd rfl (.inl rfl) (pe_lst (pa_cons (pe_tup (pa_cons pe_str (pa_cons (pv 2) pa_nil))) pa_nil)))
    (pss_cons (ps_set (i := 5) sc_turn.nd rfl (.inl rfl) pe_dnewK)
    (pss_cons (ps_for PassesOwn.never rfl (pi_list (C8.pe_c c_chosen hr (by omega) (by rfl) (pa_cons (pv 0) (pa_cons (pv 1) (pa_cons (pv 2) pa_nil))))) (pg_name (i := 6) sc_turn.nd rfl (.inl rfl)) (pss_cons (ps_if (pt_cmp (pc_din (hu_of hr) (pe_ix ix_tup (pe_ix ix_tup (pe_ix ix_tup (pv 0) pe_int (fun _ _ => rfl)) (pv 6) (fun _ _ => rfl)) pe_int (fun _ _ => rfl)) (pv 5))) (pss_one ps_continue) pss_nil)
    (pss_cons (ps_set (i := 7) sc_turn.nd rfl (.inl rfl) (C8.pe_c c_passed hr (by omega) (by rfl) (pa_cons (pv 0) (pa_cons (pv 1) (pa_cons (pv 6) (pa_cons (pv 3) pa_nil))))))
    (pss_cons (ps_set (i := 1) sc_turn.nd rfl (.inl rfl) (pe_ix ix_tup (pv 7) pe_int (fun _ _ => rfl)))
    (pss_one (ps_for PassesOwn.never rfl (pi_list (pe_ix ix_tup (pv 7) pe_int (fun _ _ => rfl))) (pg_name (i := 8) sc_turn.nd rfl (.inl rfl)) (pss_cons (ps_expr (pe_bm PySem.F.plainAttrs_list PySem.F.slot_list_append PySem.F.type_list_append mt_append (pv 4) (pa_cons (pv 8) pa_nil)))
    (pss_one (ps_if (pt_cmpR op_eq (pe_ix ix_tup (pv 8) pe_int (fun _ _ => rfl)) pe_str (nomark _)) (pss_one (ps_dput (hu_of hr) (pv 5) (pe_ix ix_tup (pv 8) pe_int (fun _ _ => rfl)) pe_bl rfl)) pss_nil)))))))))
    (pss_one (ps_ret (pe_tup (pa_cons (pv 1) (pa_cons (pv 4) pa_nil)))))))), ?_⟩
  -- record = [("take", event)]; left = {}
  refine q_asgLD (K := K) (ead_cons (evd_tup (ead_cons (evd_str ev_c) (ead_cons (evd_int (ev_var rfl)) ead_nil)) (by show 2 ≤ 100000; omega)) ead_nil) (by show 1 ≤ 100000; omega) fun pr rs0 H1 npr e1 hpr hrs0 => ?_
  intro d nd
  have e2 : Ex H1 (upd H1 d (.dK [])) := Ex.new nd
  have nprl : pr ≠ l := (ne_of_none hL.ls npr).symm
  have npr2 := e2 _ _ hpr
  have nd0 := fresh_back e1 nd
  have e12 := e1.trans e2
  -- for door in chosen(chart, stand, event)
  have eIt : EvL (tCall (spChosen K) [] C8.E0 (tCons (tVar 0) (tCons (tVar 1) (tCons (tVar 2) tNil)))) [some v, some u, some (.int event), some (.ref L), some (.ref pr), some (.ref d), none, none, none] (upd H1 d (.dK [])) ((chosenF c S event).map V.int) :=
    evl_call (⟨c, S, event⟩ : ChoArg) (ead_cons (evd_var rfl (mv hc e12)) (ead_cons (evd_var rfl (mv hS e12)) (ead_cons (evd_int (ev_var rfl)) ead_nil))) ⟨cok, hnm, sok, hnd⟩
  refine q_forNLn eIt (fun pC i σ' H' => ∃ (S' : Stand) (r : List Ent) (lf line' : List Int) (sv : V) (y6 y7 y8 : Option V), σ' = [some v, some sv, some (.int event), some (.ref L), some (.ref pr), some (.ref d), y6, y7, y8] ∧
      turnGo c ((chosenF c S event).drop i) S' r lf line' = turnF c S event line ∧ StandOk c.rooms (20 + 42 * i) S' ∧ r.length ≤ 1 + 3800 * i ∧ pC ≠ pr ∧ pC ≠ l ∧ TurnI K CL c H H' L l pr d pC (chosenF c S event) v sv S' r lf line')
    (fun pC H3 npC e3 hpC => ⟨S, [.num "take" event], [], line, u, none, none, none, rfl, rfl, sok, Nat.le_refl 1, (ne_of_none npr2 npC).symm, (ne_of_none (e12 _ _ hL.ls) npC).symm, ?_⟩)
    (fun pC i σ' H' _ ⟨S', r, lf, line', sv, y6, y7, y8, es, hg, so, hrl, n1, n2, I⟩ => SqL.of I.lst)
    (fun pC i x σ' H' gx ⟨S', r, lf, line', sv, y6, y7, y8, es, hg, so, hrl, n1, n2, I⟩ => ?_) fun pC σ' H' ⟨S', r, lf, line', sv, y6, y7, y8, es, hg, so, hrl, n1, n2, I⟩ => ?_
  · have e13 := e12.trans e3
    refine ⟨ch_ex e13, mv hc e13, mv hS e13, hL.ex e13, ⟨rs0, e3 _ _ npr2, mva hrs0 (e2.trans e3)⟩, ⟨[], e3 _ _ upd_same, Nat.zero_le _, fun n => by
      rw [valV_nil]
      simp⟩, hpC⟩
  · subst es
    obtain ⟨dk, gr, rfl⟩ : ∃ dk, (chosenF c S event)[i]? = some dk ∧ x = .int dk := by
      rw [List.getElem?_map] at gx
      cases cc : (chosenF c S event)[i]? with
      | none =>
        rw [cc] at gx
        cases gx
      | some r =>
        rw [cc] at gx
        exact ⟨r, rfl, (Option.some.inj gx).symm⟩
    have hdk := hcm dk (List.mem_of_getElem? gr)
    have hi : i < 20 := by
      have z := (List.getElem?_eq_some_iff.mp gr).1
      omega
    rw [drop_cons gr] at hg
    have hg' : (if (doorAt c.doors dk).room ∈ lf then turnGo c ((chosenF c S event).drop (i + 1)) S' r lf line' else turnGo c ((chosenF c S event).drop (i + 1)) (passedF c S' dk line').stand (r ++ (passedF c S' dk line').told) (lf ++ (passedF c S' dk line').told.filterMap outOf) (passedF c S' dk line').line) = turnF c S event line := hg
    obtain ⟨kvs, hkv, hkl, hkm⟩ := I.dic
    have tst : EvT (tB (tDIn (tOp (rIxT K) (tOp (rIxT K) (tOp (rIxT K) (tVar 0) (tC (.int 6))) (tVar 6)) (tC (.int 0))) (tVar 5))) [some v, some sv, some (.int event), some (.ref L), some (.ref pr), some (.ref d), some (.int dk), y7, y8] H' (decide ((doorAt c.doors dk).room ∈ lf)) :=
      et_is (et_din (ev_int (evd_ix (evd_door (evd_var rfl I.hc) (ev_var rfl) hdk.1 hdk.2) ev_c ⟨by decide, rfl⟩)) (ev_var rfl) hkv) (hkm _)
    refine q_when tst (fun hb H4 e4 => ?_) fun hb H4 e4 => ?_
    · -- the door's room was left
      rw [if_pos (of_decide_eq_true hb)] at hg'
      exact ⟨S', r, lf, line', sv, some (.int dk), y7, y8, rfl, hg', ⟨so.inr, by have z := so.len; omega, so.kept, fun row h => Nat.le_trans (so.rows row h) (by omega)⟩, by omega, n1, n2, I.ex e4⟩
    · rw [if_neg (of_decide_eq_false hb)] at hg'
      have I4 := I.ex e4
      have pok : PassArg.ok ⟨c, S', dk, line', 20 + 42 * i⟩ := ⟨cok, hnm, so, by show 20 + 42 * i ≤ 900; omega, hdk.1, hdk.2⟩
      -- found = passed(chart, stand, door, letters)
      refine q_passed (x := ⟨c, S', dk, line', 20 + 42 * i⟩) (evd_var rfl I4.hc) (evd_var rfl I4.hS) (ev_var rfl) (ev_var rfl) I4.le pok fun H5 p q sv2 rs2 c5 hl5 hp5 hsv5 nq5 hq5 hrs5 => ?_
      dsimp only at hl5 hp5 hsv5 hrs5
      have hpo := passed_ok (line := line') cok so hdk.1 hdk.2
      have hpt := passed_told (line := line') cok so hdk.1 hdk.2
      generalize passedF c S' dk line' = g at hg' hl5 hsv5 hrs5 hpo hpt
      obtain ⟨rs, hrs, hrr⟩ := I4.rcd
      obtain ⟨kvs, hkv, hkl, hkm⟩ := I4.dic
      have t5 : TK H4 H5 := I4.le.tk c5
      have nqpr : q ≠ pr := (ne_of_none hrs nq5).symm
      have nqpC : q ≠ pC := (ne_of_none I4.lst nq5).symm
      have ndl : d ≠ l := ne_of hkv I4.le.ls (by intro z; cases z)
      -- stand = found[0]
      refine q_asg (v := sv2) (ev_op (ev_var rfl) ev_c (rv_ixT (SqT.of hp5) rfl)) fun H6 e6 => ?_
      have hp6 := e6 _ _ hp5
      -- for entry in found[1]
      have hrl5 := dpa_len hrs5
      rw [List.length_map] at hrl5
      have hc6 := mt I4.hc (t5.trans (tk_ex e6)) (nol_eChart hnm)
      refine s_forLn (ev_op (ev_var rfl) ev_c (rv_ixT (SqT.of hp6) rfl)) (SqL.of (e6 _ _ hq5)) (fun j σ' H' => ∃ (y8 : Option V), σ' = [some v, some sv2, some (.int event), some (.ref L), some (.ref pr), some (.ref d), some (.int dk), some (.ref p), y8] ∧ TK H6 H' ∧ H' q = some (.lst rs2) ∧
          Ch l H H' ∧ LetAt CL H' L l c.most g.line ∧ (∃ rs, H' pr = some (.lst rs) ∧ DpAll K H' rs ((r ++ g.told.take j).map eEnt)) ∧ (∃ kvs, H' d = some (.dK kvs) ∧ kvs.length ≤ r.length + j ∧ ∀ n : Int, (valV kvs (Sum.inl n : Key)).isSome = decide (n ∈ lf ++ (g.told.take j).filterMap outOf)) ∧ H' pC = some (.lst ((chosenF c S event).map V.int)))
        (fun H7 e7 => ?_) (fun j σ' H' _ ⟨_, _, _, z, _⟩ => SqL.of z) (fun j x σ' H7 gx ⟨y8, es, t7, hq7, c7, l7, ⟨rs7, hr7, hrr7⟩, ⟨kv7, hk7, hkl7, hkm7⟩, hC7⟩ => ?_) fun σ' H7 ⟨y8, es, t7, hq7, c7, l7, ⟨rs7, hr7, hrr7⟩, ⟨kv7, hk7, hkl7, hkm7⟩, hC7⟩ => ?_
      · have e67 := e6.trans e7
        refine ⟨_, rfl, tk_ex e7, e67 _ _ hq5, (I4.ch.trans c5).trans (ch_ex e67), hl5.ex e67, ⟨rs, e67 _ _ (c5 _ _ hrs nprl), ?_⟩, ⟨kvs, e67 _ _ (c5 _ _ hkv ndl), hkl, ?_⟩, e67 _ _ (c5 _ _ I4.lst n2)⟩
        · rw [List.take_zero, List.append_nil]
          exact dpa_tk (t5.trans (tk_ex e67)) _ _ (nol_map nol_eEnt _) hrr
        · intro n
          rw [hkm n]
          exact decide_eq_decide.mpr (by simp)
      · subst es
        obtain ⟨dd, gd, hx0⟩ := dpa_at hrs5 gx
        obtain ⟨en, ge, rfl⟩ : ∃ en, g.told[j]? = some en ∧ dd = eEnt en := by
          rw [List.getElem?_map] at gd
          cases cc : g.told[j]? with
          | none =>
            rw [cc] at gd
            cases gd
          | some r =>
            rw [cc] at gd
            exact ⟨r, rfl, (Option.some.inj gd).symm⟩
        have hx7 := mt hx0 ((tk_ex e6).trans t7) (nol_eEnt en)
        have hj : j < g.told.length := (List.getElem?_eq_some_iff.mp ge).1
        have hrl7 := dpa_len hrr7
        rw [List.length_map, List.length_append, List.length_take] at hrl7
        -- record.append(entry)
        refine q_app hr7 (ev_var rfl) (ev_var rfl) (by omega) fun H8 e8 => ?_
        have tu : TK H8 (upd H8 pr (.lst (rs7 ++ [x]))) := tk_upd (e8 _ _ hr7) trivial
        have t78 := (tk_ex e8).trans tu
        have npq : pr ≠ q := nqpr.symm
        have hd8 : upd H8 pr (.lst (rs7 ++ [x])) d = some (.dK kv7) := by
          rw [upd_ne (ne_of hk7 hr7 (by intro z; cases z))]
          exact e8 _ _ hk7
        have hC8 : upd H8 pr (.lst (rs7 ++ [x])) pC = some (.lst ((chosenF c S event).map V.int)) := by
          rw [upd_ne n1]
          exact e8 _ _ hC7
        have hq8 : upd H8 pr (.lst (rs7 ++ [x])) q = some (.lst rs2) := by
          rw [upd_ne nqpr]
          exact e8 _ _ hq7
        have c8 : Ch l H (upd H8 pr (.lst (rs7 ++ [x]))) := fun b o hb hbl => by
          rw [upd_ne (ne_of_none hb npr)]
          exact e8 _ _ (c7 _ _ hb hbl)
        have l8 : LetAt CL (upd H8 pr (.lst (rs7 ++ [x]))) L l c.most g.line := by
          obtain ⟨⟨dx, z1⟩, z2⟩ := l7
          refine ⟨⟨dx, ?_⟩, ?_⟩
          · rw [upd_ne (ne_of z1 hr7 (by intro z; cases z))]
            exact e8 _ _ z1
          · rw [upd_ne nprl.symm]
            exact e8 _ _ z2
        have r8 : DpAll K (upd H8 pr (.lst (rs7 ++ [x]))) (rs7 ++ [x]) ((r ++ g.told.take (j + 1)).map eEnt) := by
          rw [take_snoc ge, ← List.append_assoc, List.map_append]
          exact dpa_app (dpa_tk t78 _ _ (nol_map nol_eEnt _) hrr7) (.cons (mt hx7 t78 (nol_eEnt en)) .nil)
        have hx8 := mt hx7 t78 (nol_eEnt en)
        refine s_when (et_test (ev_eqS (evd_str_word hx8) ev_c)) (fun hw H9 e9 => ?_) fun hw H9 e9 => ?_
        · obtain ⟨n, rfl⟩ := out_of (of_decide_eq_true hw)
          -- left[entry[1]] = True
          have hk9 := e9 _ _ hd8
          refine ev_c H9 (Ex.refl H9) _ fun HA eA => (ev_var rfl : Ev (tVar 5) _ H9 (.ref d)) HA eA _ fun HB eB => (ev_int (i := n) (evd_ix (evd_var rfl (mv hx8 e9)) ev_c ⟨by decide, rfl⟩) : Ev _ _ H9 _) HB (eA.trans eB) _ fun HC eC => ?_
          have e9C := (eA.trans eB).trans eC
          have e8C := e9.trans e9C
          have hkC := e8C _ _ hd8
          have tC : TK HC (upd HC d (.dK (putK kv7 (Sum.inl n) (.bl true)))) := tk_upd hkC trivial
          have tt := ((t78.trans (tk_ex e8C)).trans tC)
          refine ⟨d, _, rfl, DPut.k (k := Sum.inl n) hkC (sz_lt (by omega)), some x, rfl, t7.trans tt, ?_, ?_, ?_, ⟨rs7 ++ [x], ?_, dpa_tk ((tk_ex e8C).trans tC) _ _ (nol_map nol_eEnt _) r8⟩, ⟨_, upd_same, ?_, ?_⟩, ?_⟩
          · rw [upd_ne (ne_of hq8 hd8 (by intro z; cases z))]
            exact e8C _ _ hq8
          · intro b o hb hbl
            rw [upd_ne (ne_of_none hb nd0)]
            exact e8C _ _ (c8 _ _ hb hbl)
          · obtain ⟨⟨dx, z1⟩, z2⟩ := l8
            refine ⟨⟨dx, ?_⟩, ?_⟩
            · rw [upd_ne (ne_of z1 hd8 (by intro z; cases z))]
              exact e8C _ _ z1
            · rw [upd_ne ndl.symm]
              exact e8C _ _ z2
          · rw [upd_ne (ne_of upd_same hd8 (by intro z; cases z))]
            exact e8C _ _ upd_same
          · have z := length_putK kv7 (Sum.inl n : Key) (.bl true)
            omega
          · intro m
            rw [valV_put, take_snoc ge, List.filterMap_append]
            show (if (Sum.inl m : Key) = Sum.inl n then some (V.bl true) else valV kv7 (Sum.inl m)).isSome = decide (m ∈ lf ++ ((g.told.take j).filterMap outOf ++ [n]))
            rw [← List.append_assoc]
            by_cases z : m = n
            · subst z
              rw [if_pos rfl]
              simp
            · rw [if_neg fun y => z (Sum.inl.inj y), hkm7 m]
              simp [z]
          · rw [upd_ne (ne_of hC8 hd8 (by intro z; cases z))]
            exact e8C _ _ hC8
        · have ho := out_none (of_decide_eq_false hw)
          refine ⟨some x, rfl, t7.trans (t78.trans (tk_ex e9)), e9 _ _ hq8, c8.trans (ch_ex e9), l8.ex e9, ⟨rs7 ++ [x], e9 _ _ upd_same, mva r8 e9⟩, ⟨kv7, e9 _ _ hd8, by omega, fun m => ?_⟩, e9 _ _ hC8⟩
          rw [hkm7 m, take_snoc ge, List.filterMap_append, List.filterMap_cons, ho]
          simp
      · subst es
        rw [hrl5] at hrr7 hkl7 hkm7
        rw [List.take_length] at hrr7 hkm7
        refine ⟨g.stand, r ++ g.told, lf ++ g.told.filterMap outOf, g.line, sv2, some (.int dk), some (.ref p), y8, rfl, hg', ⟨hpo.inr, by have z := hpo.len; omega, hpo.kept, fun row h => Nat.le_trans (hpo.rows row h) (by omega)⟩, ?_, n1, n2, ⟨c7, mt hc6 t7 (nol_eChart hnm), mt hsv5 ((tk_ex e6).trans t7) (nol_eStand _), l7, ⟨rs7, hr7, hrr7⟩, ⟨kv7, hk7, ?_, hkm7⟩, hC7⟩⟩
        · rw [List.length_append]
          omega
        · rw [List.length_append]
          exact hkl7
  · subst es
    rw [List.length_map, List.drop_length] at hg
    have hg' : (⟨S', r, line'⟩ : Got) = turnF c S event line := hg
    rw [← hg'] at k
    obtain ⟨rs, hrs, hrr⟩ := I.rcd
    refine s_retPair (evd_var rfl I.hS) (ev_var rfl) fun p sv2 H7 e7 np hp hsv => ?_
    exact k H7 p pr sv2 rs (I.ch.trans (ch_ex e7)) (I.le.ex e7) hp hsv npr (e7 _ _ hrs) (mva hrr e7)
end
end Nh
/-! NhMix: the law's own helpers: cells, lies, holds, answer, same, deeds. -/
namespace Nh
open PySem PySem.Spec PyProof.Rows L2 Evl
section
variable {P : Program} {w : World} {K : PySem.W.Frag} {mg : Str → Option Value} {base : Heap}
/-! ### cells -/
def cellF (ns : List Int) (k : Int) : Int := if ns = [] then 0 else ns.getD (k % (ns.length : Int)).toNat 0
def spCellAt (K : PySem.W.Frag) : Sp := spD K (fun x : List Int × Int => [lints x.1, .int x.2]) (fun _ => True) (fun x => .int (cellF x.1 x.2))
theorem at_ints {ns : List Int} {i : Int} (h0 : 0 ≤ i) (h1 : i < ns.length) : AtD (ns.map PyData.int) i (.int (ns.getD i.toNat 0)) := by
  refine ⟨h0, ?_⟩
  have h2 : i.toNat < ns.length := by omega
  rw [List.getElem?_map, List.getElem?_eq_getElem h2, List.getD_eq_getElem?_getD, List.getElem?_eq_getElem h2]
  rfl
theorem cal_cell (T : Txt mg) (F : DefAt K mg "_law_cell_at" s_law_cell_at ["_law_script", "_law_k"]) : C8.Cal P w K mg base 1 "_law_cell_at" (spCellAt K) [] := by
  refine cal_of F sc_law_cell_at (len_D fun _ => rfl) (fun f cdv A outer s H vs Q E hr h => ?_)
  obtain ⟨⟨ns, k⟩, hv, _, q⟩ := h
  dsimp only at hv q
  obtain ⟨v, u, rfl, hn, hk⟩ := dpa2 hv
  have ek := dp_int hk
  subst ek
  refine ⟨_, (pss_cons (ps_if (pt_cmpR op_eq (pe_callB call_len_seq (by rfl) T.m_len (by decide +kernel) (pa_cons (pv 0) pa_nil)) pe_int (nomark _)) (pss_one (ps_ret pe_int)) pss_nil)
    (pss_one (ps_ret (pe_ix ix_list (pv 0) (pe_op op_mod (pv 1) (pe_callB call_len_seq (by rfl) T.m_len (by decide +kernel) (pa_cons (pv 0) pa_nil))) (fun _ _ => rfl))))), ?_⟩
  have hl : ((ns.map PyData.int).length : Int) = (ns.length : Int) := by rw [List.length_map]
  refine q_when (et_test (ev_eqI (ev_lenL (ds := ns.map PyData.int) (evd_var rfl hn)) ev_c)) (fun hc H1 e1 => ?_) fun hc H1 e1 => ?_
  · have z := of_decide_eq_true hc
    have en : ns = [] := List.eq_nil_iff_length_eq_zero.mpr (by omega)
    have ec : cellF ns k = 0 := if_pos en
    rw [ec] at q
    exact s_ret ev_c fun H2 e2 => q _ _ (e1.trans e2) (.int 0)
  · have z := of_decide_eq_false hc
    have en : ¬ ns = [] := fun e => by
      rw [e] at z
      exact z rfl
    have hp : 0 < (ns.length : Int) := by omega
    have ec : cellF ns k = ns.getD (k % (ns.length : Int)).toNat 0 := if_neg en
    rw [ec] at q
    refine s_retD (evd_ixl (evd_var rfl (mv hn e1)) (ev_op (ev_var rfl) (ev_lenL (ds := ns.map PyData.int) (evd_var rfl (mv hn e1))) (rv_I (by
      rw [hl]
      exact hp))) ?_) fun v2 H2 e2 h2 => q v2 H2 (e1.trans e2) h2
    rw [hl]
    exact at_ints (Int.emod_nonneg _ (by omega)) (Int.emod_lt_of_pos _ hp)
def lapF (ns : List Int) (k : Int) : Int := k / (if (ns.length : Int) > 1 then (ns.length : Int) else 1)
def near0 (ns : List Int) (k salt : Int) : Int := cellF ns k % 2 ^ 31 + 1009 * k * k + 7919 * salt * salt + 12
def near1 (ns : List Int) (k salt : Int) : Int := near0 ns k salt * 48271 % 2147483647
def near2 (ns : List Int) (k salt : Int) : Int := near1 ns k salt * near1 ns k salt % 2147483629
def mixF (ns : List Int) (k salt : Int) : Int := (cellF ns k / 2 ^ (31 * (salt + 128 * lapF ns k)).toNat + near2 ns k salt) % 2 ^ 31
theorem mix_ge (ns : List Int) (k salt : Int) : 0 ≤ mixF ns k salt := Int.emod_nonneg _ (by decide)
def mixOk (x : List Int × Int × Int) : Prop := x.1.length ≤ 63 ∧ 0 ≤ x.2.1 ∧ x.2.1 ≤ 1000 ∧ 0 ≤ x.2.2 ∧ x.2.2 ≤ 100
def spMix (K : PySem.W.Frag) : Sp := spD K (fun x : List Int × Int × Int => [lints x.1, .int x.2.1, .int x.2.2]) mixOk (fun x => .int (mixF x.1 x.2.1 x.2.2))
theorem rv_and {i : Int} {H : Hp} : RV (fun x y H Q => ∃ (i : Int) (k : Nat), x = .int i ∧ y = .int (2 ^ k - 1) ∧ Q (.int (i % 2 ^ k)) H) (.int i) (.int 2147483647) H (.int (i % 2 ^ 31)) := fun H1 _ Q q => ⟨i, 31, rfl, by decide, q H1 (Ex.refl H1)⟩
theorem cal_mixed (T : Txt mg) (F : DefAt K mg "_law_mixed" s_law_mixed ["_law_script", "_law_k", "_law_salt"]) (c_law_cell_at : C8.Cal P w K mg base 1 "_law_cell_at" (spCellAt K) []) : C8.Cal P w K mg base 2 "_law_mixed" (spMix K) [] := by
  refine cal_of F sc_law_mixed (len_D fun _ => rfl) (fun f cdv A outer s H vs Q E hr h => ?_)
  obtain ⟨⟨ns, k, salt⟩, hv, ⟨h63, k0, k1, s0, s1⟩, q⟩ := h
  dsimp only at hv h63 k0 k1 s0 s1 q
  obtain ⟨v, u, x, rfl, hn, hk, hs⟩ := dpa3 hv
  have ek := dp_int hk
  subst ek
  have es := dp_int hs
  subst es
  refine ⟨_, (pss_cons (ps_set (i := 3) sc_law_mixed.nd rfl (.inl rfl) (C8.pe_c c_law_cell_at hr (by omega) (by rfl) (pa_cons (pv 0) (pa_cons (pv 1) pa_nil))))
    (pss_cons (ps_set (i := 4) sc_law_mixed.nd rfl (.inl rfl) (pe_op op_fdiv (pv 1) (pe_callB (call_max2 rfl) (by rfl) T.m_max (by decide +kernel) (pa_cons pe_int (pa_cons (pe_callB call_len_seq (by rfl) T.m_len (by decide +kernel) (pa_cons (pv 0) pa_nil)) pa_nil)))))
    (pss_cons (ps_set (i := 5) sc_law_mixed.nd rfl (.inl rfl) (pe_op op_add (pe_op op_add (pe_op op_add (pe_op op_andM (pv 3) pe_int) (pe_op op_mul (pe_op op_mul pe_int (pv 1)) (pv 1))) (pe_op op_mul (pe_op op_mul pe_int (pv 2)) (pv 2))) pe_int))
    (pss_cons (ps_set (i := 5) sc_law_mixed.nd rfl (.inl rfl) (pe_op op_mod (pe_op op_mul (pv 5) pe_int) pe_int))
    (pss_cons (ps_set (i := 5) sc_law_mixed.nd rfl (.inl rfl) (pe_op op_mod (pe_op op_mul (pv 5) (pv 5)) pe_int))
    (pss_one (ps_ret (pe_op op_andM (pe_op op_add (pe_op op_shr (pv 3) (pe_op op_mul pe_int (pe_op op_add (pv 2) (pe_op op_mul pe_int (pv 4))))) (pv 5)) pe_int)))))))), ?_⟩
  have hl : ((ns.map PyData.int).length : Int) = (ns.length : Int) := by rw [List.length_map]
  refine q_asg (v := .int (cellF ns k)) (ev_int (evd_call (ns, k) (ead_cons (evd_var rfl hn) (ead_cons (evd_int (ev_var rfl)) ead_nil)) trivial)) fun H1 e1 => ?_
  refine q_asg (v := .int (lapF ns k)) (ev_op (ev_var rfl) (ev_max2 ev_c (ev_lenL (ds := ns.map PyData.int) (evd_var rfl (mv hn e1)))) (by
    rw [hl]
    refine rv_I (C := CDiv) (g := fun i j => .int (i / j)) ?_
    split <;> constructor <;> omega)) fun H2 e2 => ?_
  have hlap : 0 ≤ lapF ns k := Int.ediv_nonneg k0 (by split <;> omega)
  have m1 : CMul 1009 k := .inl ⟨by decide, by decide⟩
  have m2 : CMul (1009 * k) k := .inr ⟨by omega, by omega⟩
  have m3 : CMul 7919 salt := .inl ⟨by decide, by decide⟩
  have m4 : CMul (7919 * salt) salt := .inr ⟨by omega, by omega⟩
  refine q_asg (v := .int (near0 ns k salt)) (ev_op (ev_op (ev_op (ev_op (ev_var rfl) ev_c rv_and) (ev_op (ev_op ev_c (ev_var rfl) (rv_I m1)) (ev_var rfl) (rv_I m2)) rv_I0) (ev_op (ev_op ev_c (ev_var rfl) (rv_I m3)) (ev_var rfl) (rv_I m4)) rv_I0) ev_c rv_I0) fun H3 e3 => ?_
  refine q_asg (v := .int (near1 ns k salt)) (ev_op (ev_op (ev_var rfl) ev_c (rv_I (C := CMul) (.inr ⟨by decide, by decide⟩))) ev_c (rv_I (by decide))) fun H4 e4 => ?_
  have hn1 : 0 ≤ near1 ns k salt := Int.emod_nonneg _ (by decide)
  have hn2 : near1 ns k salt < 2147483647 := Int.emod_lt_of_pos _ (by decide)
  refine q_asg (v := .int (near2 ns k salt)) (ev_op (ev_op (ev_var rfl) (ev_var rfl) (rv_I (C := CMul) (.inr ⟨by omega, by omega⟩))) ev_c (rv_I (by decide))) fun H5 e5 => ?_
  have m5 : CMul 128 (lapF ns k) := .inl ⟨by decide, by decide⟩
  have m6 : CMul 31 (salt + 128 * lapF ns k) := .inl ⟨by decide, by decide⟩
  refine s_ret (v := .int (mixF ns k salt)) (ev_op (ev_op (ev_op (ev_var rfl) (ev_op ev_c (ev_op (ev_var rfl) (ev_op ev_c (ev_var rfl) (rv_I m5)) rv_I0) (rv_I m6)) (rv_I (C := fun _ j => 0 ≤ j) (by omega))) (ev_var rfl) rv_I0) ev_c rv_and) fun H6 e6 => ?_
  exact q _ _ (((((e1.trans e2).trans e3).trans e4).trans e5).trans e6) (.int _)
theorem ev_mix {σ : L2.St} {H : Hp} {t0 t1 t2 : TE} {ns : List Int} {k salt : Int} {E : XK} (h0 : EvD K t0 σ H (lints ns)) (h1 : Ev t1 σ H (.int k)) (h2 : Ev t2 σ H (.int salt)) (ok : mixOk (ns, k, salt)) : Ev (tCall (spMix K) [] E (tCons t0 (tCons t1 (tCons t2 tNil)))) σ H (.int (mixF ns k salt)) :=
  ev_int (evd_call (ns, k, salt) (ead_cons h0 (ead_cons (evd_int h1) (ead_cons (evd_int h2) ead_nil))) ok)
/-! ### lies, told anew -/
theorem endGo_spec (R : List Room) (d : Int) : ∀ (f k : Nat), (∀ j : Nat, k ≤ j → j < endGo R d f k → d < dep R (j : Int)) ∧ (endGo R d f k < k + f → ¬ d < dep R ((endGo R d f k : Nat) : Int))
  | 0, k => ⟨fun j h1 h2 => by
      have z : j < k := h2
      omega, fun h => by
      have z : k < k + 0 := h
      omega⟩
  | f + 1, k => by
    have ih := endGo_spec R d f (k + 1)
    have e : endGo R d (f + 1) k = if d < dep R (k : Int) then endGo R d f (k + 1) else k := rfl
    by_cases h : d < dep R (k : Int)
    · rw [e, if_pos h]
      refine ⟨fun j h1 h2 => ?_, fun h2 => ih.2 (by omega)⟩
      by_cases z : j = k
      · subst z
        exact h
      · exact ih.1 j (by omega) h2
    · rw [e, if_neg h]
      exact ⟨fun j h1 h2 => by omega, fun _ => h⟩
theorem lies_iff {R : List Room} {one other : Int} (h1 : aRoom R one) (h2 : aRoom R other) : liesF R one other = true ↔ other < one ∧ ∀ j : Nat, (j : Int) < one - other → ¬ dep R (other + 1 + (j : Int)) ≤ dep R other := by
  obtain ⟨a0, a1, _⟩ := h1
  obtain ⟨b0, b1, _⟩ := h2
  have sp := endGo_spec R (dep R other) (R.length - (other.toNat + 1)) (other.toNat + 1)
  have ge := endGo_ge R (dep R other) (R.length - (other.toNat + 1)) (other.toNat + 1)
  have ee : endF R other = ((endGo R (dep R other) (R.length - (other.toNat + 1)) (other.toNat + 1) : Nat) : Int) := rfl
  unfold liesF
  rw [Bool.and_eq_true, decide_eq_true_eq, decide_eq_true_eq, ee]
  generalize endGo R (dep R other) (R.length - (other.toNat + 1)) (other.toNat + 1) = e at sp ge
  refine ⟨fun ⟨x, y⟩ => ⟨x, fun j hj => ?_⟩, fun ⟨x, y⟩ => ⟨x, ?_⟩⟩
  · have z := sp.1 (other.toNat + 1 + j) (by omega) (by omega)
    rw [show ((other.toNat + 1 + j : Nat) : Int) = other + 1 + (j : Int) by omega] at z
    omega
  · by_cases c : one < (e : Int)
    · exact c
    · exfalso
      have z := sp.2 (by omega)
      have y2 := y (e - (other.toNat + 1)) (by omega)
      rw [show other + 1 + ((e - (other.toNat + 1) : Nat) : Int) = (e : Int) by omega] at y2
      omega
def liesOk (x : List Room × Int × Int) : Prop := aRoom x.1 x.2.1 ∧ aRoom x.1 x.2.2
def spLawLies (K : PySem.W.Frag) : Sp := spD K (fun x : List Room × Int × Int => [eRooms x.1, .int x.2.1, .int x.2.2]) liesOk (fun x => .bool (liesF x.1 x.2.1 x.2.2))
theorem cal_law_lies (T : Txt mg) (F : DefAt K mg "_law_lies" s_law_lies ["_law_rooms_here", "_law_one", "_law_other"]) : C8.Cal P w K mg base 1 "_law_lies" (spLawLies K) [] := by
  refine cal_of F sc_law_lies (len_D fun _ => rfl) (fun f cdv A outer s H vs Q E hr h => ?_)
  obtain ⟨⟨R, one, other⟩, hv, ⟨ho, ht⟩, q⟩ := h
  dsimp only at hv ho ht q
  obtain ⟨v, u, x, rfl, hR, hu, hx⟩ := dpa3 hv
  have eu := dp_int hu
  subst eu
  have ex := dp_int hx
  subst ex
  have hi := lies_iff ho ht
  obtain ⟨a0, a1, a20⟩ := id ho
  obtain ⟨b0, b1, _⟩ := id ht
  refine ⟨_, (pss_cons (ps_if (pt_cmpR op_ge (pv 2) (pv 1) (nomark _)) (pss_one (ps_ret pe_bl)) pss_nil)
    (pss_cons (ps_for PassesOwn.never rfl (pi_range2 (by rfl) T.m_range (pa_cons (pe_op op_add (pv 2) pe_int) (pa_cons (pe_op op_add (pv 1) pe_int) pa_nil))) (pg_name (i := 3) sc_law_lies.nd rfl (.inl rfl)) (pss_one (ps_if (pt_cmpR op_le (pe_ix ix_tup (pe_ix ix_tup (pv 0) (pv 3) (fun _ _ => rfl)) pe_int (fun _ _ => rfl)) (pe_ix ix_tup (pe_ix ix_tup (pv 0) (pv 2) (fun _ _ => rfl)) pe_int (fun _ _ => rfl)) (nomark _)) (pss_one (ps_ret pe_bl)) pss_nil)))
    (pss_one (ps_ret pe_bl)))), ?_⟩
  refine q_when (et_test (ev_op (ev_var rfl) (ev_var rfl) rv_I0)) (fun hc H1 e1 => ?_) fun hc H1 e1 => ?_
  · have z := of_decide_eq_true hc
    have hf : liesF R one other = false := by
      cases c : liesF R one other with
      | false => rfl
      | true => exact absurd (hi.mp c).1 (by omega)
    rw [hf] at q
    exact s_ret ev_c fun H2 e2 => q _ _ (e1.trans e2) (.bl _)
  · have z := of_decide_eq_false hc
    refine q_forR2 (ea_cons (ev_op (ev_var rfl) ev_c rv_I0) (ea_cons (ev_op (ev_var rfl) ev_c rv_I0) ea_nil)) (by omega)
      (fun i σ' H' => Ex H H' ∧ (∃ y, σ' = [some v, some (.int one), some (.int other), y]) ∧ ∀ j : Nat, j < i → ¬ dep R (other + 1 + (j : Int)) ≤ dep R other) (fun H2 e2 => ⟨e1.trans e2, ⟨_, rfl⟩, fun j hj => by omega⟩) (fun i σ' H' hi2 ⟨e, ⟨y, es⟩, hn⟩ => ?_) fun σ' H' ⟨e, ⟨y, es⟩, hn⟩ => ?_
    · subst es
      have R2 := mv hR e
      refine s_when (et_test (ev_op (ev_dep (evd_var rfl R2) (ev_var rfl) (by omega) (by omega)) (ev_dep (evd_var rfl R2) (ev_var rfl) b0 b1) rv_I0)) (fun hb H3 e3 => ?_) fun hb H3 e3 => ?_
      · have hb' := of_decide_eq_true hb
        have hf : liesF R one other = false := by
          cases c : liesF R one other with
          | false => rfl
          | true => exact absurd hb' ((hi.mp c).2 i (by omega))
        rw [hf] at q
        exact s_ret ev_c fun H4 e4 => q _ _ ((e.trans e3).trans e4) (.bl _)
      · refine ⟨e.trans e3, ⟨_, rfl⟩, fun j hj => ?_⟩
        by_cases c : j = i
        · subst c
          exact of_decide_eq_false hb
        · exact hn j (by omega)
    · subst es
      have hf : liesF R one other = true := hi.mpr ⟨by omega, fun j hj => hn j (by omega)⟩
      rw [hf] at q
      exact s_ret ev_c fun H4 e4 => q _ _ (e.trans e4) (.bl _)
/-! ### holds, told anew -/
theorem cal_law_holds (F : DefAt K mg "_law_holds" s_law_holds ["_law_guard", "_law_opening", "_law_boxes"]) : C8.Cal P w K mg base 1 "_law_holds" (spHolds K) [] := by
  refine cal_of F sc_law_holds (len_D fun _ => rfl) (fun f cdv A outer s H vs Q E hr h => ?_)
  obtain ⟨⟨S, gd⟩, hv, _, q⟩ := h
  dsimp only at hv q
  obtain ⟨g, o, b, rfl, hg, ho, hb⟩ := dpa3 hv
  refine ⟨_, (pss_cons (ps_if (pt_cmpR op_eq (pe_ix ix_tup (pv 0) pe_int (fun _ _ => rfl)) pe_str (nomark _)) pss_never pss_nil)
    (pss_cons (ps_if (pt_cmpR op_eq (pe_ix ix_tup (pv 0) pe_int (fun _ _ => rfl)) pe_str (nomark _)) (pss_one (ps_ret (pe_cmpR op_lt (pe_ix ix_tup (pv 2) (pe_ix ix_tup (pv 0) pe_int (fun _ _ => rfl)) (fun _ _ => rfl)) (pe_ix ix_tup (pv 0) pe_int (fun _ _ => rfl)) (nomark _)))) pss_nil)
    (pss_cons (ps_if (pt_cmpR op_eq (pe_ix ix_tup (pv 0) pe_int (fun _ _ => rfl)) pe_str (nomark _)) pss_never pss_nil)
    (pss_cons (ps_if (pt_cmpR op_eq (pe_ix ix_tup (pv 0) pe_int (fun _ _ => rfl)) pe_str (nomark _)) (pss_one (ps_ret pe_bl)) pss_nil)
    pss_never)))), ?_⟩
  cases gd with
  | yes =>
    have hw : ∀ {σ : L2.St} {H1 : Hp}, EvD K (tVar 0) σ H1 (eGuard .yes) → Ev (tOp (rIxT K) (tVar 0) (tC (.int 0))) σ H1 (.str "yes") := fun h => ev_str (evd_ix h ev_c ⟨by decide, rfl⟩)
    refine q_skip (et_test (ev_eqS (hw (evd_var rfl hg)) ev_c)) (by decide +kernel) fun H2 e2 => ?_
    refine q_skip (et_test (ev_eqS (hw (evd_var rfl (mv hg e2))) ev_c)) (by decide +kernel) fun H3 e3 => ?_
    have e23 := e2.trans e3
    refine q_skip (et_test (ev_eqS (hw (evd_var rfl (mv hg e23))) ev_c)) (by decide +kernel) fun H4 e4 => ?_
    have e24 := e23.trans e4
    refine q_when (et_test (ev_eqS (hw (evd_var rfl (mv hg e24))) ev_c)) (fun _ H5 e5 => ?_) fun hc _ _ => absurd hc (by decide +kernel)
    exact s_ret ev_c fun H8 e8 => q _ _ ((e24.trans e5).trans e8) (.bl _)
  | under n =>
    have hw : ∀ {σ : L2.St} {H1 : Hp}, EvD K (tVar 0) σ H1 (eGuard (.under n)) → Ev (tOp (rIxT K) (tVar 0) (tC (.int 0))) σ H1 (.str "under") := fun h => ev_str (evd_ix h ev_c ⟨by decide, rfl⟩)
    refine q_skip (et_test (ev_eqS (hw (evd_var rfl hg)) ev_c)) (by decide +kernel) fun H2 e2 => ?_
    refine q_when (et_test (ev_eqS (hw (evd_var rfl (mv hg e2))) ev_c)) (fun _ H3 e3 => ?_) fun hc _ _ => absurd hc (by decide +kernel)
    have eH := e2.trans e3
    exact s_ret (ev_op (ev_int (i := S.box) (evd_ix (evd_var rfl (mv hb eH)) (ev_int (i := 0) (evd_ix (evd_var rfl (mv hg eH)) ev_c ⟨by decide, rfl⟩)) ⟨by decide, rfl⟩)) (ev_int (i := n) (evd_ix (evd_var rfl (mv hg eH)) ev_c ⟨by decide, rfl⟩)) rv_I0)
      fun H4 e4 => q _ _ (eH.trans e4) (.bl _)
/-! ### answer, told anew -/
def lAnsOk (x : AnsArg) : Prop := x.room ∈ x.stand.opening ∧ x.chart.doors.length ≤ 14
def spLawAns (K : PySem.W.Frag) : Sp := spD K (fun x : AnsArg => [eChart x.chart, eStand x.stand, .int x.room, .int x.event]) lAnsOk (fun x => optD (ansF x.chart x.stand x.room x.event))
theorem cal_law_answer (T : Txt mg) (F : DefAt K mg "_law_answer" s_law_answer ["_law_chart", "_law_stand_here", "_law_room", "_law_event"]) (c_law_holds : C8.Cal P w K mg base 1 "_law_holds" (spHolds K) []) : C8.Cal P w K mg base 2 "_law_answer" (spLawAns K) [] := by
  refine cal_of F sc_law_answer (len_D fun _ => rfl) (fun f cdv A outer s H vs Q E hr h => ?_)
  obtain ⟨⟨c, S, room, event⟩, hv, ⟨hin, h14⟩, q⟩ := h
  dsimp only at hv hin h14 q
  obtain ⟨g, o, b, ev, rfl, hg, ho, hb, hev⟩ := dpa4 hv
  have eb := dp_int hb
  subst eb
  have ee := dp_int hev
  subst ee
  refine ⟨_, (pss_cons (ps_if (pt_cmpR op_notIn_seq (pv 2) (pe_ix ix_tup (pv 1) pe_int (fun _ _ => rfl)) (by rfl)) (pss_one (ps_ret pe_non)) pss_nil)
    (pss_cons (ps_for PassesOwn.never rfl (pi_range1 (by rfl) T.m_range (pa_cons (pe_callB call_len_seq (by rfl) T.m_len (by decide +kernel) (pa_cons (pe_ix ix_tup (pv 0) pe_int (fun _ _ => rfl)) pa_nil)) pa_nil)) (pg_name (i := 4) sc_law_answer.nd rfl (.inl rfl)) (pss_cons (ps_set (i := 5) sc_law_answer.nd rfl (.inl rfl) (pe_ix ix_tup (pe_ix ix_tup (pv 0) pe_int (fun _ _ => rfl)) (pv 4) (fun _ _ => rfl)))
    (pss_one (ps_if (PW.pt (pw_and (pt_cmpR op_eq (pe_ix ix_tup (pv 5) pe_int (fun _ _ => rfl)) (pv 2) (nomark _)) (pw_and (pt_cmpR op_eq (pe_ix ix_tup (pv 5) pe_int (fun _ _ => rfl)) (pv 3) (nomark _)) (pw_and1 (pt_val (C8.pe_c c_law_holds hr (by omega) (by rfl) (pa_cons (pe_ix ix_tup (pv 5) pe_int (fun _ _ => rfl)) (pa_cons (pe_ix ix_tup (pv 1) pe_int (fun _ _ => rfl)) (pa_cons (pe_ix ix_tup (pv 1) pe_int (fun _ _ => rfl)) pa_nil))))))))) (pss_one (ps_ret (pv 4))) pss_nil))))
    (pss_one (ps_ret pe_non)))), ?_⟩
  refine q_skip (et_test (ev_niT (ev_var rfl) (evd_open (evd_var rfl ho)))) (by rw [decide_eq_true hin]; rfl) fun H1 e1 => ?_
  have hl : ((c.doors.map eDoor).length : Int) = (c.doors.length : Int) := by rw [List.length_map]
  refine q_forR1 (ea_cons (ev_lenT (ds := c.doors.map eDoor) (evd_doors (evd_var rfl (mv hg e1)))) ea_nil) (by omega) (fun i σ' H' => Ex H H' ∧ (∃ y z, σ' = [some g, some o, some (.int room), some (.int event), y, z]) ∧ ansGo S room event (c.doors.drop i) i = ansF c S room event)
    (fun H2 e2 => ⟨e1.trans e2, ⟨_, _, rfl⟩, rfl⟩) (fun i σ' H' hi ⟨e, ⟨y, z, es⟩, hp⟩ => ?_) fun σ' H' ⟨e, ⟨y, z, es⟩, hp⟩ => ?_
  · subst es
    rw [hl] at hi
    have hi2 : i < c.doors.length := by omega
    have gr : c.doors[i]? = some (doorAt c.doors (i : Int)) := by
      unfold doorAt
      rw [List.getD_eq_getElem?_getD, show ((i : Int)).toNat = i by omega, List.getElem?_eq_getElem hi2]
      rfl
    rw [drop_cons gr] at hp
    have hp' : (if doorFits S room event (doorAt c.doors (i : Int)) = true then some (i : Int) else ansGo S room event (c.doors.drop (i + 1)) (i + 1)) = ansF c S room event := hp
    refine q_asgD (evd_door (evd_var rfl (mv hg e)) (ev_var rfl) (by omega) hi) fun dv H3 e3 hd => ?_
    have eH := e.trans e3
    refine s_when (et_fits (S := S) (evd_var rfl hd) (ev_var rfl) (ev_var rfl) (ev_bl (evd_call (S, (doorAt c.doors (i : Int)).guard) (ead_cons (evd_ix (evd_var rfl hd) ev_c ⟨by decide, rfl⟩) (ead_cons (evd_open (evd_var rfl (mv ho eH))) (ead_cons (evd_box (evd_var rfl (mv ho eH))) ead_nil))) trivial))) (fun hc H5 e5 => ?_) fun hc H5 e5 => ?_
    · rw [if_pos hc] at hp'
      refine s_ret (ev_var rfl) fun H6 e6 => ?_
      refine q _ _ ((eH.trans e5).trans e6) ?_
      rw [← hp']
      exact .int _
    · rw [if_neg (by rw [hc]; exact Bool.false_ne_true)] at hp'
      exact ⟨eH.trans e5, ⟨_, _, rfl⟩, hp'⟩
  · subst es
    rw [hl, show ((c.doors.length : Int)).toNat = c.doors.length by omega, List.drop_length] at hp
    refine s_ret ev_c fun H6 e6 => ?_
    refine q _ _ (e.trans e6) ?_
    rw [← hp]
    exact .non
end
end Nh
/-! NhSame: the law's comparison of data. -/
namespace Nh
open PySem PySem.Spec PyProof.Rows L2 Evl
/-- two values that are the same data, n deep at most -/
inductive Sm (K : PySem.W.Frag) (H : Hp) : Nat → V → V → Prop where
  | str (n : Nat) (x : Str) : Sm K H n (.str x) (.str x)
  | int (n : Nat) (i : Int) : Sm K H n (.int i) (.int i)
  | tup {n : Nat} {a b : Addr} {vs ws : List V} (h1 : SqT K H a vs) (h2 : SqT K H b ws) (hl : vs.length = ws.length) (hb : ws.length ≤ 100000) (hs : ∀ (i : Nat) (x y : V), vs[i]? = some x → ws[i]? = some y → Sm K H n x y) : Sm K H (n + 1) (.ref a) (.ref b)
  | lst {n : Nat} {a b : Addr} {vs ws : List V} (h1 : H a = some (.lst vs)) (h2 : H b = some (.lst ws)) (hl : vs.length = ws.length) (hb : ws.length ≤ 100000) (hs : ∀ (i : Nat) (x y : V), vs[i]? = some x → ws[i]? = some y → Sm K H n x y) : Sm K H (n + 1) (.ref a) (.ref b)
section
variable {P : Program} {w : World} {K : PySem.W.Frag} {mg : Str → Option Value} {base : Heap}
theorem Sm.ex {H H' : Hp} (e : Ex H H') : ∀ {n : Nat} {u v : V}, Sm K H n u v → Sm K H' n u v := fun h => by
  induction h with
  | str n x => exact .str n x
  | int n i => exact .int n i
  | tup h1 h2 hl hb hs ih => exact .tup (ex_t e h1) (ex_t e h2) hl hb ih
  | lst h1 h2 hl hb hs ih => exact .lst (e _ _ h1) (e _ _ h2) hl hb ih
/-- data of ints, texts and tuples, n deep at most -/
def pl : Nat → PyData → Bool
  | _, .int _ => true
  | _, .str _ => true
  | n + 1, .tuple ds => decide (ds.length ≤ 100000) && ds.all (pl n)
  | _, _ => false
theorem sm_dp {H : Hp} : ∀ (n : Nat) (d : PyData) (u v : V), pl n d = true → Dp K H u d → Dp K H v d → Sm K H n u v
  | n, .int i, u, v, _, hu, hv => by
    rw [dp_int hu, dp_int hv]
    exact .int n i
  | n, .str x, u, v, _, hu, hv => by
    rw [dp_str hu, dp_str hv]
    exact .str n x
  | n + 1, .tuple ds, u, v, h, hu, hv => by
    obtain ⟨a, xs, rfl, s, all⟩ := dp_tup hu
    obtain ⟨b, ys, rfl, s2, all2⟩ := dp_tup hv
    have h' : (decide (ds.length ≤ 100000) && ds.all (pl n)) = true := h
    rw [Bool.and_eq_true] at h'
    refine .tup s s2 (by rw [dpa_len all, dpa_len all2]) (by rw [dpa_len all2]; exact of_decide_eq_true h'.1) fun i x y gx gy => ?_
    obtain ⟨d, gd, hx⟩ := dpa_at all gx
    obtain ⟨d2, gd2, hy⟩ := dpa_at all2 gy
    have e : d = d2 := Option.some.inj (gd.symm.trans gd2)
    subst e
    exact sm_dp n d x y (List.all_eq_true.mp h'.2 d (List.mem_of_getElem? gd)) hx hy
  | 0, .tuple ds, _, _, h, _, _ => by cases h
  | n, .none, _, _, h, _, _ => by cases n <;> cases h
  | n, .bool b, _, _, h, _, _ => by cases n <;> cases h
  | n, .list ds, _, _, h, _, _ => by cases n <;> cases h
  | n, .dict ds, _, _, h, _, _ => by cases n <;> cases h
theorem pl_map {α : Type} {f : α → PyData} {n : Nat} {l : List α} (hl : l.length ≤ 100000) (h : ∀ a ∈ l, pl n (f a) = true) : pl (n + 1) (.tuple (l.map f)) = true := by
  show (decide ((l.map f).length ≤ 100000) && (l.map f).all (pl n)) = true
  rw [Bool.and_eq_true, List.length_map]
  refine ⟨decide_eq_true hl, List.all_eq_true.mpr fun d hd => ?_⟩
  obtain ⟨i, hi, e⟩ := List.mem_map.mp hd
  subst e
  exact h i hi
theorem pl_int (n : Nat) (i : Int) : pl n (.int i) = true := by
  cases n <;> rfl
theorem pl_ints (n : Nat) {ns : List Int} (h : ns.length ≤ 100000) : pl (n + 1) (eInts ns) = true := pl_map h fun i _ => pl_int n i
theorem pl_kept (n : Nat) {k : List (List Int)} (h : k.length ≤ 100000) (h2 : ∀ row ∈ k, row.length ≤ 100000) : pl (n + 2) (eKept k) = true := pl_map h fun row hr => pl_ints n (h2 row hr)
theorem pl_stand (n : Nat) {S : Stand} (h0 : S.opening.length ≤ 100000) (h1 : S.kept.length ≤ 100000) (h2 : ∀ row ∈ S.kept, row.length ≤ 100000) : pl (n + 3) (eStand S) = true := by
  show (decide (3 ≤ 100000) && (pl (n + 2) (eInts S.opening) && (pl (n + 2) (eBox S.box) && (pl (n + 2) (eKept S.kept) && true)))) = true
  rw [pl_ints (n + 1) h0, pl_kept n h1 h2]
  rfl
theorem pl_ent (n : Nat) (e : Ent) : pl (n + 1) (eEnt e) = true := by
  cases n <;> cases e <;> rfl
theorem q_skipS {σ : L2.St} {H : Hp} {t : TT} {tu : TS} {D : Ends} {b : Bool} (h : EvT t σ H b) (e : b = false) (k : ∀ H1, Ex H H1 → D.nx σ H1) : tIfS t tu tNext D σ H := s_when h (fun z => by rw [e] at z; cases z) fun _ H1 e1 => k H1 e1
/-! ### isinstance -/
theorem ev_isi {σ : L2.St} {H : Hp} {ta : TE} {x : V} {a b : String} {r : Bool} (h : Ev ta σ H x) (ty : ∀ H', Ex H H' → TyX K H' x (.type a)) (hk : kitB a b = some r) : Ev (tCB (rIsi K) (tCons ta (tCons (tC (.ty b)) tNil))) σ H (.bl r) := fun H1 e Q q =>
  h H1 e _ fun H2 e2 => ⟨x, .ty b, _, _, r, rfl, .ty b, ty H2 (e.trans e2), kit_ty hk, q H2 e2⟩
theorem ty_tup {H : Hp} {a : Addr} {xs : List V} (s : SqT K H a xs) : TyX K H (.ref a) (.type "tuple") := by
  rcases s with (h | ⟨o, h⟩) | ⟨o, its, n, h, hc, _⟩
  · exact .base (.tup h)
  · exact .fTuple h
  · exact .kTuple h hc
def Sq (K : PySem.W.Frag) (H : Hp) (a : Addr) (xs : List V) : Prop := SqL K H a xs ∨ SqT K H a xs
theorem ev_lenS {σ : L2.St} {H : Hp} {ta : TE} {a : Addr} {xs : List V} (h : Ev ta σ H (.ref a)) (s : ∀ H', Ex H H' → Sq K H' a xs) : Ev (tCB (rLenS K) (tCons ta tNil)) σ H (.int (xs.length : Int)) := fun H1 e Q q =>
  h H1 e _ fun H2 e2 => ⟨a, xs, rfl, s H2 (e.trans e2), q H2 e2⟩
theorem ev_ixS {σ : L2.St} {H : Hp} {ta tb : TE} {a : Addr} {xs : List V} {i : Int} {x : V} (h : Ev ta σ H (.ref a)) (hi : Ev tb σ H (.int i)) (s : ∀ H', Ex H H' → Sq K H' a xs) (g : atI xs i = some x) : Ev (tOp (rIx K) ta tb) σ H x := fun H1 e Q q =>
  h H1 e _ fun H2 e2 => hi H2 (e.trans e2) _ fun H3 e3 => by
    have eH := (e.trans e2).trans e3
    rcases s H3 eH with z | z
    · exact .inl ⟨a, xs, i, x, rfl, rfl, z, g, q H3 (e2.trans e3)⟩
    · exact .inr (.inl ⟨a, xs, i, x, rfl, rfl, z, g, q H3 (e2.trans e3)⟩)
def spSm (K : PySem.W.Frag) : Nat → Sp
  | 0 => fun _ _ _ _ => False
  | n + 1 => fun vs H Q _ => ∃ u v : V, vs = [u, v] ∧ Sm K H n u v ∧ RetV (.bl true) H Q
theorem ev_same {σ : L2.St} {H : Hp} {t0 t1 : TE} {u v : V} {n : Nat} {E : XK} (h0 : Ev t0 σ H u) (h1 : Ev t1 σ H v) (s : Sm K H n u v) : Ev (tCall (spSm K (n + 1)) [] E (tCons t0 (tCons t1 tNil))) σ H (.bl true) := fun H1 e Q q =>
  h0 H1 e _ fun H2 e2 => h1 H2 (e.trans e2) _ fun H3 e3 => ⟨u, v, rfl, s.ex ((e.trans e2).trans e3), fun H4 e4 => q H4 ((e2.trans e3).trans e4)⟩
/-- what the comparison looks at, of two objects -/
structure SmRef (K : PySem.W.Frag) (H : Hp) (a b : Addr) (m : Nat) (tn : String) (bt bl : Bool) (vs ws : List V) : Prop where
  k1 : kitB tn "str" = some false
  k2 : kitB tn "int" = some false
  k3 : kitB tn "tuple" = some bt
  k4 : kitB tn "list" = some bl
  ta : ∀ H', Ex H H' → TyX K H' (.ref a) (.type tn)
  tb : ∀ H', Ex H H' → TyX K H' (.ref b) (.type tn)
  sa : ∀ H', Ex H H' → Sq K H' a vs
  sb : ∀ H', Ex H H' → Sq K H' b ws
  hl : vs.length = ws.length
  hb : ws.length ≤ 100000
  hs : ∀ (i : Nat) (x y : V), vs[i]? = some x → ws[i]? = some y → Sm K H m x y
theorem sm_cases {H : Hp} {n : Nat} {u v : V} (h : Sm K H n u v) : (∃ x, u = .str x ∧ v = .str x) ∨ (∃ i, u = .int i ∧ v = .int i) ∨ ∃ a b m tn bt bl vs ws, n = m + 1 ∧ u = .ref a ∧ v = .ref b ∧ SmRef K H a b m tn bt bl vs ws := by
  cases h with
  | str n x => exact .inl ⟨x, rfl, rfl⟩
  | int n i => exact .inr (.inl ⟨i, rfl, rfl⟩)
  | tup h1 h2 hl hb hs => exact .inr (.inr ⟨_, _, _, "tuple", true, false, _, _, rfl, rfl, rfl, by decide +kernel, by decide +kernel, by decide +kernel, by decide +kernel, fun H' e => ty_tup (ex_t e h1), fun H' e => ty_tup (ex_t e h2), fun H' e => .inr (ex_t e h1), fun H' e => .inr (ex_t e h2), hl, hb, hs⟩)
  | lst h1 h2 hl hb hs => exact .inr (.inr ⟨_, _, _, "list", false, true, _, _, rfl, rfl, rfl, by decide +kernel, by decide +kernel, by decide +kernel, by decide +kernel, fun H' e => .base (.lst (e _ _ h1)), fun H' e => .base (.lst (e _ _ h2)), fun H' e => .inl (SqL.of (e _ _ h1)), fun H' e => .inl (SqL.of (e _ _ h2)), hl, hb, hs⟩)
theorem cal_same (T : Txt mg) (F : DefAt K mg "_law_same" s_law_same ["_law_found", "_law_due_here"]) : ∀ n : Nat, C8.Cal P w K mg base n "_law_same" (spSm K n) []
  | 0 => by
    obtain ⟨f, fd, F, hm, b⟩ := F.ex
    exact ⟨f, fd, ["_law_found", "_law_due_here"], [], ⟨fun vs H Q E h => False.elim h, fun A outer s H args us vs Q E _ _ _ _ h => False.elim h⟩, hm, F.kp, b, .nil⟩
  | n + 1 => by
    have c_law_same := cal_same T F n
    refine cal_of F sc_law_same (fun vs H Q E ⟨_, _, e, _⟩ => by rw [e]; rfl) (fun f cdv A outer s H vs Q E hr h => ?_)
    obtain ⟨u, v, rfl, hsm, q⟩ := h
    refine ⟨_, (pss_cons (ps_if (pt_val (pe_callB call_isi (by rfl) T.m_isinstance (by decide +kernel) (pa_cons (pv 1) (pa_cons (pe_bltn (v := .ty "str") (by rfl) T.m_str (by decide +kernel) rfl) pa_nil)))) (pss_one (ps_ret (pe_and (pe_callB call_isi (by rfl) T.m_isinstance (by decide +kernel) (pa_cons (pv 0) (pa_cons (pe_bltn (v := .ty "str") (by rfl) T.m_str (by decide +kernel) rfl) pa_nil))) (pe_one (pe_cmpR op_eq (pv 0) (pv 1) (nomark _)))))) pss_nil)
    (pss_cons (ps_if (pt_val (pe_callB call_isi (by rfl) T.m_isinstance (by decide +kernel) (pa_cons (pv 1) (pa_cons (pe_bltn (v := .ty "int") (by rfl) T.m_int (by decide +kernel) rfl) pa_nil)))) (pss_one (ps_ret (pe_and (pe_callB call_isi (by rfl) T.m_isinstance (by decide +kernel) (pa_cons (pv 0) (pa_cons (pe_bltn (v := .ty "int") (by rfl) T.m_int (by decide +kernel) rfl) pa_nil))) (pe_and (pe_not (pe_callB call_isi (by rfl) T.m_isinstance (by decide +kernel) (pa_cons (pv 0) (pa_cons (pe_bltn (v := .ty "bool") (by rfl) T.m_bool (by decide +kernel) rfl) pa_nil)))) (pe_one (pe_cmpR op_eq (pv 0) (pv 1) (nomark _))))))) pss_nil)
    (pss_cons (ps_if (PW.pt (pw_and (pt_val (pe_callB call_isi (by rfl) T.m_isinstance (by decide +kernel) (pa_cons (pv 1) (pa_cons (pe_bltn (v := .ty "tuple") (by rfl) T.m_tuple (by decide +kernel) rfl) pa_nil)))) (pw_and1 (pt_not (pt_val (pe_callB call_isi (by rfl) T.m_isinstance (by decide +kernel) (pa_cons (pv 0) (pa_cons (pe_bltn (v := .ty "tuple") (by rfl) T.m_tuple (by decide +kernel) rfl) pa_nil)))))))) (pss_one (ps_ret pe_bl)) pss_nil)
    (pss_cons (ps_if (PW.pt (pw_and (pt_val (pe_callB call_isi (by rfl) T.m_isinstance (by decide +kernel) (pa_cons (pv 1) (pa_cons (pe_bltn (v := .ty "list") (by rfl) T.m_list (by decide +kernel) rfl) pa_nil)))) (pw_and1 (pt_not (pt_val (pe_callB call_isi (by rfl) T.m_isinstance (by decide +kernel) (pa_cons (pv 0) (pa_cons (pe_bltn (v := .ty "list") (by rfl) T.m_list (by decide +kernel) rfl) pa_nil)))))))) (pss_one (ps_ret pe_bl)) pss_nil)
    (pss_cons (ps_if (pt_cmpR op_ne (pe_callB call_len_seq (by rfl) T.m_len (by decide +kernel) (pa_cons (pv 0) pa_nil)) (pe_callB call_len_seq (by rfl) T.m_len (by decide +kernel) (pa_cons (pv 1) pa_nil)) (nomark _)) (pss_one (ps_ret pe_bl)) pss_nil)
    (pss_cons (ps_for PassesOwn.never rfl (pi_range1 (by rfl) T.m_range (pa_cons (pe_callB call_len_seq (by rfl) T.m_len (by decide +kernel) (pa_cons (pv 1) pa_nil)) pa_nil)) (pg_name (i := 2) sc_law_same.nd rfl (.inl rfl)) (pss_one (ps_if (pt_not (pt_val (C8.pe_c c_law_same hr (by omega) (by rfl) (pa_cons (pe_ix ix_seq (pv 0) (pv 2) (fun _ _ => rfl)) (pa_cons (pe_ix ix_seq (pv 1) (pv 2) (fun _ _ => rfl)) pa_nil))))) (pss_one (ps_ret pe_bl)) pss_nil)))
    (pss_one (ps_ret pe_bl)))))))), ?_⟩
    rcases sm_cases hsm with ⟨x, rfl, rfl⟩ | ⟨i, rfl, rfl⟩ | ⟨a, b, m, tn, bt, bl, vs, ws, rfl, rfl, rfl, R⟩
    · -- two texts
      refine q_when (b := true) (et_B (ev_isi (a := "str") (b := "str") (ev_var rfl) (fun _ _ => .base (.str x)) (by decide +kernel))) (fun _ H1 e1 => ?_) fun z => by cases z
      refine s_ret (v := .bl true) (ev_is (ev_andV (a := true) (b := true) (ev_isi (a := "str") (b := "str") (ev_var rfl) (fun _ _ => .base (.str x)) (by decide +kernel)) fun _ => ev_is (ev_eqS (ev_var rfl) (ev_var rfl)) (by rw [decide_eq_true rfl])) rfl) fun H2 e2 => ?_
      exact q H2 (e1.trans e2)
    · -- two numbers
      refine q_skip (b := false) (et_B (ev_isi (a := "int") (b := "str") (ev_var rfl) (fun _ _ => .base (.int i)) (by decide +kernel))) rfl fun H1 e1 => ?_
      refine q_when (b := true) (et_B (ev_isi (a := "int") (b := "int") (ev_var rfl) (fun _ _ => .base (.int i)) (by decide +kernel))) (fun _ H2 e2 => ?_) fun z => by cases z
      refine s_ret (v := .bl true) (ev_is (ev_andV (a := true) (b := true) (ev_isi (a := "int") (b := "int") (ev_var rfl) (fun _ _ => .base (.int i)) (by decide +kernel)) fun _ => ev_is (ev_andV (a := true) (b := true) (ev_notV (a := false) (ev_isi (a := "int") (b := "bool") (ev_var rfl) (fun _ _ => .base (.int i)) (by decide +kernel))) fun _ => ev_is (ev_eqI (ev_var rfl) (ev_var rfl)) (by rw [decide_eq_true rfl])) rfl) rfl) fun H3 e3 => ?_
      exact q H3 ((e1.trans e2).trans e3)
    · -- two objects
      refine q_skip (b := false) (et_B (ev_isi (ev_var rfl) R.tb R.k1)) rfl fun H1 e1 => ?_
      refine q_skip (b := false) (et_B (ev_isi (ev_var rfl) (fun H' e => R.tb H' (e1.trans e)) R.k2)) rfl fun H2 e2 => ?_
      have e12 := e1.trans e2
      refine q_skip (et_and (et_B (ev_isi (ev_var rfl) (fun H' e => R.tb H' (e12.trans e)) R.k3)) fun _ => et_not (et_B (ev_isi (ev_var rfl) (fun H' e => R.ta H' (e12.trans e)) R.k3))) (by cases bt <;> rfl) fun H3 e3 => ?_
      have e13 := e12.trans e3
      refine q_skip (et_and (et_B (ev_isi (ev_var rfl) (fun H' e => R.tb H' (e13.trans e)) R.k4)) fun _ => et_not (et_B (ev_isi (ev_var rfl) (fun H' e => R.ta H' (e13.trans e)) R.k4))) (by cases bl <;> rfl) fun H4 e4 => ?_
      have e14 := e13.trans e4
      refine q_skip (et_test (ev_neI (ev_lenS (ev_var rfl) fun H' e => R.sa H' (e14.trans e)) (ev_lenS (ev_var rfl) fun H' e => R.sb H' (e14.trans e)))) (by rw [R.hl, decide_eq_true rfl]; rfl) fun H5 e5 => ?_
      have e15 := e14.trans e5
      have hb := R.hb
      refine q_forR1 (ea_cons (ev_lenS (ev_var rfl) fun H' e => R.sb H' (e15.trans e)) ea_nil) (by omega) (fun i σ' H' => Ex H H' ∧ ∃ y, σ' = [some (.ref a), some (.ref b), y]) (fun H6 e6 => ⟨e15.trans e6, _, rfl⟩) (fun i σ' H' hi ⟨e, y, es⟩ => ?_) fun σ' H' ⟨e, y, es⟩ => ?_
      · subst es
        have hi1 : i < ws.length := by omega
        have hi2 : i < vs.length := by
          have z := R.hl
          omega
        have g1 := List.getElem?_eq_getElem hi1
        have g2 := List.getElem?_eq_getElem hi2
        have sm := (R.hs i _ _ g2 g1).ex e
        refine q_skipS (et_not (et_B (ev_same (ev_ixS (ev_var rfl) (ev_var rfl) (fun H' e' => R.sa H' (e.trans e')) (at_of rfl g2)) (ev_ixS (ev_var rfl) (ev_var rfl) (fun H' e' => R.sb H' (e.trans e')) (at_of rfl g1)) sm))) rfl fun H7 e7 => ⟨e.trans e7, _, rfl⟩
      · subst es
        exact s_ret ev_c fun H7 e7 => q H7 (e.trans e7)
end
end Nh
/-! NhMake: what the law builds: deeds, rooms. -/
namespace Nh
open PySem PySem.Spec PyProof.Rows L2 Evl
section
variable {P : Program} {w : World} {K : PySem.W.Frag} {mg : Str → Option Value} {base : Heap}
section
variable {σ : L2.St} {H : Hp} {ta tb te ti : TE} {t : TT} {D : Ends} {tu tz : TS} {d : PyData} {ds : List PyData}
theorem evd_lst {ta : TA} (h : EvAD K ta σ H ds) (hl : ds.length ≤ 100000) : EvD K (tLst ta) σ H (.list ds) := fun H1 e Q q =>
  h H1 e _ fun vs H2 e2 hs => ⟨sz_of (by rw [dpa_len hs]; exact hl), fun p hp => q (.ref p) _ (e2.trans (Ex.new hp)) (.lst (SqL.of upd_same) (mva hs (Ex.new hp)))⟩
theorem el_catN {a : Addr} {xs ys : List V} (h1 : Ev ta σ H (.ref a)) (ha : H a = some (.lst xs)) (h2 : EvL tb σ H ys) (hz : xs.length + ys.length ≤ 100000) : EvL (tOp rCat ta tb) σ H (xs ++ ys) := fun H1 e Q q =>
  h1 H1 e _ fun H2 e2 => h2 H2 (e.trans e2) _ fun p H3 np e3 hp => ⟨a, p, _, _, rfl, rfl, ((e.trans e2).trans e3) _ _ ha, hp, sz_of hz, fun p3 np3 => q p3 _ (fresh_back (e2.trans e3) np3) ((e2.trans e3).trans (Ex.new np3)) upd_same⟩
theorem rv_addS {x y : Str} (h : x.length + y.length ≤ 100000) : RV (fun x y H Q => ∃ i j, x = .str i ∧ y = .str j ∧ i.length + j.length ≤ sizeLine ∧ Q (.str (i ++ j)) H) (.str x) (.str y) H (.str (x ++ y)) := fun H1 _ Q q => ⟨x, y, rfl, rfl, sz_of h, q H1 (Ex.refl H1)⟩
def letF (s : Str) (i : Int) : Str := ⟨#[s.cps.toList.getD i.toNat 0]⟩
theorem let_at {s : Str} {i : Int} (h0 : 0 ≤ i) (h1 : i < s.cps.toList.length) : atI s.cps.toList i = some (s.cps.toList.getD i.toNat 0) := by
  have h2 : i.toNat < s.cps.toList.length := by omega
  have g : s.cps.toList[i.toNat]? = some (s.cps.toList.getD i.toNat 0) := by
    rw [List.getD_eq_getElem?_getD, List.getElem?_eq_getElem h2]
    rfl
  unfold atI ixN
  rw [if_pos h0, if_pos h1]
  exact g
theorem ev_let {s : Str} {i : Int} (h : Ev ti σ H (.int i)) (hl : s.length ≤ 100000) (h0 : 0 ≤ i) (h1 : i < s.cps.toList.length) : Ev (tOp rIxS (tC (.str s)) ti) σ H (.str (letF s i)) :=
  ev_op ev_c h (rv_ixS hl (let_at h0 h1))
/-- if t: l.append(e), behind it the rest -/
theorem q_ifApp {b : Bool} {l : Addr} {xs : List V} (h : EvT t σ H b) (hl : H l = some (.lst xs)) (hx : DpAll K H xs ds) (nx : nolAll ds = true) (ha : Ev ta σ H (.ref l)) (he : b = true → EvD K te σ H d) (nd : nol d = true) (hz : xs.length < 100000)
    (k : ∀ H1 ys, Ch l H H1 → H1 l = some (.lst ys) → DpAll K H1 ys (ds ++ if b then [d] else []) → tz D σ H1) : tSeq (tIfS t (tDrop (tBM K "list" rAppend ta (tCons te tNil))) tNext) tz D σ H := by
  refine q_when h (fun hb H1 e1 => ?_) fun hb H1 e1 => ?_
  · refine s_appD (e1 _ _ hl) (ha.mono e1) ((he hb).mono e1) hz fun v H2 e2 hv => ?_
    have t2 : TK H2 (upd H2 l (.lst (xs ++ [v]))) := tk_upd (e2 _ _ (e1 _ _ hl)) trivial
    refine k _ _ ((ch_ex (e1.trans e2)).trans ch_upd) upd_same ?_
    rw [if_pos hb]
    exact dpa_app (dpa_tk t2 _ _ nx (mva hx (e1.trans e2))) (.cons (mt hv t2 nd) .nil)
  · refine k H1 xs (ch_ex e1) (e1 _ _ hl) ?_
    rw [if_neg (by rw [hb]; exact Bool.false_ne_true), List.append_nil]
    exact mva hx e1
theorem ev_modc {i m : Int} (h : Ev ta σ H (.int i)) (hm : 0 < m) : Ev (tOp (rI (fun _ j => 0 < j) fun i j => .int (i % j)) ta (tC (.int m))) σ H (.int (i % m)) := ev_op h ev_c (rv_I hm)
theorem ev_divc {i m : Int} (h : Ev ta σ H (.int i)) (hm : CDiv i m) : Ev (tOp (rI CDiv fun i j => .int (i / j)) ta (tC (.int m))) σ H (.int (i / m)) := ev_op h ev_c (rv_I hm)
theorem ev_mod {i m : Int} (h : Ev ta σ H (.int i)) (h2 : Ev tb σ H (.int m)) (hm : 0 < m) : Ev (tOp (rI (fun _ j => 0 < j) fun i j => .int (i % j)) ta tb) σ H (.int (i % m)) := ev_op h h2 (rv_I hm)
end
/-! ### deeds -/
def sayF (n : Int) : Deed := .say ("word" ++ letF "abcdefg" (n / 3 % 7))
def deedsF (n ev : Int) : List Deed := ((if decide (n % 3 = 0) then [sayF n] else []) ++ (if decide (n / 21 % 4 = 0) then [Deed.send (n / 84 % ev)] else [])) ++ (if decide (n / 21 % 4 = 1) then [Deed.add (n / 84 % 5)] else [])
theorem deeds_len (n ev : Int) : (deedsF n ev).length ≤ 3 := by
  unfold deedsF
  rw [List.length_append, List.length_append]
  have h1 : (if decide (n % 3 = 0) then [sayF n] else []).length ≤ 1 := by split <;> simp
  have h2 : (if decide (n / 21 % 4 = 0) then [Deed.send (n / 84 % ev)] else []).length ≤ 1 := by split <;> simp
  have h3 : (if decide (n / 21 % 4 = 1) then [Deed.add (n / 84 % 5)] else []).length ≤ 1 := by split <;> simp
  omega
theorem map_ite {α β : Type} (f : α → β) (b : Bool) (x : α) : (if b then [x] else []).map f = if b then [f x] else [] := by
  cases b <;> rfl
def spDeeds (K : PySem.W.Frag) : Sp := spD K (fun x : Int × Int => [.int x.1, .int x.2]) (fun x => 1 ≤ x.2) (fun x => eDeeds (deedsF x.1 x.2))
theorem cal_law_deeds (T : Txt mg) (F : DefAt K mg "_law_deeds" s_law_deeds ["_law_number", "_law_events"]) : C8.Cal P w K mg base 1 "_law_deeds" (spDeeds K) [] := by
  refine cal_of F sc_law_deeds (len_D fun _ => rfl) (fun f cdv A outer s H vs Q E hr h => ?_)
  obtain ⟨⟨n, ev⟩, hv, he, q⟩ := h
  dsimp only at hv he q
  obtain ⟨v, u, rfl, hn, hu⟩ := dpa2 hv
  have en := dp_int hn
  subst en
  have eu := dp_int hu
  subst eu
  refine ⟨_, (pss_cons (ps_set (i := 2) sc_law_deeds.nd rfl (.inl rfl) (pe_lst pa_nil))
    (pss_cons (ps_if (pt_cmpR op_eq (pe_op op_mod (pv 0) pe_int) pe_int (nomark _)) (pss_one (ps_expr (pe_bm PySem.F.plainAttrs_list PySem.F.slot_list_append PySem.F.type_list_append mt_append (pv 2) (pa_cons (pe_tup (pa_cons pe_str (pa_cons (pe_op op_add_str pe_str (pe_ix ix_str pe_str (pe_op op_mod (pe_op op_fdiv (pv 0) pe_int) pe_int) (fun _ _ => rfl))) pa_nil))) pa_nil)))) pss_nil)
    (pss_cons (ps_if (pt_cmpR op_eq (pe_op op_mod (pe_op op_fdiv (pv 0) pe_int) pe_int) pe_int (nomark _)) (pss_one (ps_expr (pe_bm PySem.F.plainAttrs_list PySem.F.slot_list_append PySem.F.type_list_append mt_append (pv 2) (pa_cons (pe_tup (pa_cons pe_str (pa_cons (pe_op op_mod (pe_op op_fdiv (pv 0) pe_int) (pv 1)) pa_nil))) pa_nil)))) pss_nil)
    (pss_cons (ps_if (pt_cmpR op_eq (pe_op op_mod (pe_op op_fdiv (pv 0) pe_int) pe_int) pe_int (nomark _)) (pss_one (ps_expr (pe_bm PySem.F.plainAttrs_list PySem.F.slot_list_append PySem.F.type_list_append mt_append (pv 2) (pa_cons (pe_tup (pa_cons pe_str (pa_cons pe_int (pa_cons (pe_op op_mod (pe_op op_fdiv (pv 0) pe_int) pe_int) pa_nil)))) pa_nil)))) pss_nil)
    (pss_one (ps_ret (pe_callTy call_tuple_of (by rfl) T.m_tuple (by decide +kernel) (pa_cons (pv 2) pa_nil)))))))), ?_⟩
  refine q_asgL (el_lst ea_nil (Nat.zero_le _)) fun p H1 np e1 hp => ?_
  refine q_ifApp (ds := []) (d := eDeed (sayF n)) (b := decide (n % 3 = 0)) (et_test (ev_eqI (ev_modc (ev_var rfl) (by decide)) ev_c)) hp .nil rfl (ev_var rfl) (fun _ => evd_tup (ead_cons (evd_str ev_c) (ead_cons (evd_str (ev_op ev_c (ev_let (ev_modc (ev_divc (ev_var rfl) ⟨by decide, by decide⟩) (by decide)) (by decide +kernel) (Int.emod_nonneg _ (by decide)) (by
    have z : n / 3 % 7 < 7 := Int.emod_lt_of_pos _ (by decide)
    have z2 : (("abcdefg" : Str).cps.toList.length : Int) = 7 := by decide +kernel
    omega)) (rv_addS (by
      show ("word" : Str).length + 1 ≤ 100000
      decide +kernel)))) ead_nil)) (by show 2 ≤ 100000; omega)) (nol_eDeed _) (by decide) fun H2 ys c2 h2 d2 => ?_
  have l2 := dpa_len d2
  rw [List.nil_append] at d2 l2
  have ll2 : ys.length ≤ 1 := by
    rw [l2]
    split <;> simp
  refine q_ifApp (d := eDeed (.send (n / 84 % ev))) (b := decide (n / 21 % 4 = 0)) (et_test (ev_eqI (ev_modc (ev_divc (ev_var rfl) ⟨by decide, by decide⟩) (by decide)) ev_c)) h2 d2 (by split <;> rfl) (ev_var rfl) (fun _ => evd_tup (ead_cons (evd_str ev_c) (ead_cons (evd_int (ev_mod (ev_divc (ev_var rfl) ⟨by decide, by decide⟩) (ev_var rfl) (by omega))) ead_nil)) (by show 2 ≤ 100000; omega)) rfl (by omega) fun H3 zs c3 h3 d3 => ?_
  have l3 := dpa_len d3
  rw [List.length_append, ← l2] at l3
  have ll3 : zs.length ≤ 2 := by
    have z : (if decide (n / 21 % 4 = 0) then [eDeed (Deed.send (n / 84 % ev))] else []).length ≤ 1 := by split <;> simp
    omega
  refine q_ifApp (d := eDeed (.add (n / 84 % 5))) (b := decide (n / 21 % 4 = 1)) (et_test (ev_eqI (ev_modc (ev_divc (ev_var rfl) ⟨by decide, by decide⟩) (by decide)) ev_c)) h3 d3 (by split <;> split <;> rfl) (ev_var rfl) (fun _ => evd_tup (ead_cons (evd_str ev_c) (ead_cons (evd_int ev_c) (ead_cons (evd_int (ev_modc (ev_divc (ev_var rfl) ⟨by decide, by decide⟩) (by decide))) ead_nil))) (by show 3 ≤ 100000; omega)) rfl (by omega) fun H4 ws c4 h4 d4 => ?_
  refine s_retD (evd_is (evd_tupL (evd_var rfl (.lst (SqL.of h4) d4))) ?_) fun v5 H5 e5 h5 => q v5 H5 (fun b o hb => e5 _ _ (c4 _ _ (c3 _ _ (c2 _ _ (e1 _ _ hb) ?_) ?_) ?_)) h5
  · unfold eDeeds deedsF
    rw [List.map_append, List.map_append, map_ite, map_ite, map_ite]
  all_goals exact ne_of_none hb np
/-! ### depths -/
def blk (m : Nat) : List Int := 2 :: List.replicate m 3
def blks (ms : List Nat) : List Int := ms.flatMap blk
def depF (ms : List Nat) (t : Nat) : List Int := ([0, 1] ++ blks ms) ++ List.replicate t 1
def msOk (ms : List Nat) : Prop := ∀ m ∈ ms, 1 ≤ m ∧ m ≤ 3
theorem blks_snoc (ms : List Nat) (m : Nat) : blks (ms ++ [m]) = blks ms ++ blk m := by
  unfold blks
  rw [List.flatMap_append, List.flatMap_singleton]
theorem blks_len : ∀ {ms : List Nat}, msOk ms → (blks ms).length ≤ 4 * ms.length
  | [], _ => Nat.zero_le _
  | m :: ms, h => by
    have h1 := h m List.mem_cons_self
    have ih := blks_len (ms := ms) fun x hx => h x (List.mem_cons_of_mem _ hx)
    show (blk m ++ blks ms).length ≤ _
    rw [List.length_append, List.length_cons]
    unfold blk
    rw [List.length_cons, List.length_replicate]
    omega
def twoOk (D : List Int) : Prop := ∀ k : Nat, D[k]? = some 2 → D[k + 1]? = some 3
theorem two_app {A B : List Int} (h1 : twoOk A) (h2 : twoOk B) : twoOk (A ++ B) := fun k h => by
  by_cases c : k < A.length
  · rw [List.getElem?_append_left c] at h
    have z := h1 k h
    have c2 := (List.getElem?_eq_some_iff.mp z).1
    rw [List.getElem?_append_left c2]
    exact z
  · rw [List.getElem?_append_right (by omega)] at h
    have z := h2 _ h
    rw [List.getElem?_append_right (by omega), show k + 1 - A.length = k - A.length + 1 by omega]
    exact z
theorem two_none {A : List Int} (h : ∀ x ∈ A, x ≠ 2) : twoOk A := fun k hk => absurd rfl (h 2 (List.mem_of_getElem? hk))
theorem two_blk {m : Nat} (h : 1 ≤ m) : twoOk (blk m) := fun k hk => by
  obtain ⟨n, rfl⟩ : ∃ n, m = n + 1 := ⟨m - 1, by omega⟩
  cases k with
  | zero => rfl
  | succ k =>
    have z : (List.replicate (n + 1) (3 : Int))[k]? = some 2 := hk
    have z2 := List.eq_of_mem_replicate (List.mem_of_getElem? z)
    exact absurd z2 (by decide)
theorem two_blks : ∀ {ms : List Nat}, msOk ms → twoOk (blks ms)
  | [], _ => fun k h => by cases h
  | m :: ms, h => two_app (two_blk (h m List.mem_cons_self).1) (two_blks fun x hx => h x (List.mem_cons_of_mem _ hx))
theorem mem_blks : ∀ {ms : List Nat} {x : Int}, x ∈ blks ms → 1 ≤ x ∧ x ≤ 3 := fun {ms x} h => by
  obtain ⟨m, _, hx⟩ := List.mem_flatMap.mp h
  rcases List.mem_cons.mp hx with e | e
  · subst e
    decide
  · rw [List.eq_of_mem_replicate e]
    decide
structure DepOk (D : List Int) : Prop where
  most : D.length ≤ 20
  least : 2 ≤ D.length
  d0 : D[0]? = some 0
  rest : ∀ k : Nat, ∀ x, D[k]? = some x → 0 ≤ x ∧ x ≤ 3
  two : twoOk D
  three : ∃ k : Nat, D[k]? = some 3
theorem dep_ok {ms : List Nat} {t : Nat} (h : msOk ms) (h2 : 2 ≤ ms.length) (h4 : ms.length ≤ 4) (ht : t ≤ 2) : DepOk (depF ms t) := by
  have hl := blks_len h
  refine ⟨?_, ?_, rfl, fun k x hx => ?_, ?_, ?_⟩
  · unfold depF
    rw [List.length_append, List.length_append, List.length_replicate]
    show 2 + _ + t ≤ 20
    omega
  · unfold depF
    rw [List.length_append, List.length_append, List.length_replicate]
    show 2 ≤ 2 + _ + t
    omega
  · have hm := List.mem_of_getElem? hx
    rcases List.mem_append.mp hm with hm | hm
    · rcases List.mem_append.mp hm with hm | hm
      · rcases List.mem_cons.mp hm with e | e
        · omega
        · rw [List.mem_singleton] at e
          omega
      · have z := mem_blks hm
        omega
    · rw [List.eq_of_mem_replicate hm]
      decide
  · refine two_app (two_app (two_none fun x hx => ?_) (two_blks h)) (two_none fun x hx => ?_)
    · rcases List.mem_cons.mp hx with e | e
      · omega
      · rw [List.mem_singleton] at e
        omega
    · rw [List.eq_of_mem_replicate hx]
      decide
  · obtain ⟨m, ms', rfl⟩ : ∃ m ms', ms = m :: ms' := by
      cases ms with
      | nil => exact absurd h2 (by decide)
      | cons m ms' => exact ⟨m, ms', rfl⟩
    obtain ⟨n, rfl⟩ : ∃ n, m = n + 1 := ⟨m - 1, by have z := (h m List.mem_cons_self).1; omega⟩
    exact ⟨3, rfl⟩
end
end Nh
/-! NhRooms: the law's rooms. -/
namespace Nh
open PySem PySem.Spec PyProof.Rows L2 Evl
def kind0 (d : Int) : Str := if d = 0 then "one" else if d = 1 then "all" else if d = 2 then "one" else "plain"
def kinds : List PyData := [.str "one", .str "all", .str "one", .str "plain"]
theorem at_kind {d : Int} (h : 0 ≤ d ∧ d ≤ 3) : AtD kinds d (.str (kind0 d)) := by
  obtain ⟨h0, h3⟩ := h
  rcases (by omega : d = 0 ∨ d = 1 ∨ d = 2 ∨ d = 3) with e | e | e | e <;> subst e <;> exact ⟨by decide, rfl⟩
def keep0 (x : Int) : Str := if x = 0 then "" else "deep"
theorem at_keep (i : Int) : AtD [.str "", .str "deep"] (i % 2) (.str (keep0 (i % 2))) := by
  have h0 := Int.emod_nonneg i (show (2 : Int) ≠ 0 by decide)
  have h1 := Int.emod_lt_of_pos i (show (0 : Int) < 2 by decide)
  rcases (by omega : i % 2 = 0 ∨ i % 2 = 1) with e | e <;> rw [e] <;> exact ⟨by decide, rfl⟩
/-- what holds of the k-th room, over the depths -/
structure RoomOk (D : List Int) (k : Nat) (r : Room) : Prop where
  dep : D[k]? = some r.depth
  one : r.depth = 0 ∨ r.depth = 2 → r.kind = "one"
  keep : r.keeps = "" ∨ r.keeps = "deep"
  ins : r.ins.length ≤ 3
  outs : r.outs.length ≤ 3
/-- more of the law's rooms -/
structure RMore (R : List Room) : Prop where
  least : 2 ≤ R.length
  two : ∀ k : Int, 0 ≤ k → k < R.length → dep R k = 2 → k + 1 < R.length ∧ dep R (k + 1) = 3
  three : ∃ k : Int, 0 ≤ k ∧ k < R.length ∧ dep R k = 3
theorem roomAt_get {R : List Room} {i : Nat} (h : i < R.length) : R[i]? = some (roomAt R (i : Int)) := by
  unfold roomAt
  rw [List.getD_eq_getElem?_getD, show ((i : Nat) : Int).toNat = i by omega, List.getElem?_eq_getElem h]
  rfl
theorem rooms_ok {D : List Int} {R : List Room} (hD : DepOk D) (hl : R.length = D.length) (h : ∀ (k : Nat) r, R[k]? = some r → RoomOk D k r) : RoomsOk R ∧ RMore R := by
  have at_ : ∀ k : Int, 0 ≤ k → k < R.length → RoomOk D k.toNat (roomAt R k) := fun k h0 h1 => by
    have z := roomAt_get (R := R) (i := k.toNat) (by omega)
    rw [show ((k.toNat : Nat) : Int) = k by omega] at z
    exact h _ _ z
  have h2 := hD.least
  have h20 := hD.most
  refine ⟨⟨by omega, by omega, ?_, fun k h0 h1 => hD.rest _ _ (at_ k h0 h1).dep, fun k h0 h1 => (at_ k h0 h1).one, fun k h0 h1 => (at_ k h0 h1).keep, fun k h0 h1 => (at_ k h0 h1).ins, fun k h0 h1 => (at_ k h0 h1).outs⟩, ⟨by omega, fun k h0 h1 hd => ?_, ?_⟩⟩
  · have z := (at_ 0 (by omega) (by omega)).dep
    exact Option.some.inj (z.symm.trans hD.d0)
  · have z := (at_ k h0 h1).dep
    have z1 : (roomAt R k).depth = 2 := hd
    rw [z1] at z
    have z3 := hD.two _ z
    have c := (List.getElem?_eq_some_iff.mp z3).1
    refine ⟨by omega, ?_⟩
    have z4 := (at_ (k + 1) (by omega) (by omega)).dep
    rw [show (k + 1).toNat = k.toNat + 1 by omega] at z4
    exact Option.some.inj (z4.symm.trans z3)
  · obtain ⟨k, hk⟩ := hD.three
    have c := (List.getElem?_eq_some_iff.mp hk).1
    refine ⟨(k : Int), by omega, by omega, ?_⟩
    have z := (at_ (k : Int) (by omega) (by omega)).dep
    rw [show ((k : Nat) : Int).toNat = k by omega] at z
    exact Option.some.inj (z.symm.trans hk)
section
variable {P : Program} {w : World} {K : PySem.W.Frag} {mg : Str → Option Value} {base : Heap}
def ranOk (x : List Int × Int) : Prop := x.1.length ≤ 63 ∧ 1 ≤ x.2
def spRooms (K : PySem.W.Frag) : Sp := spX K (fun x : List Int × Int => [lints x.1, .int x.2]) ranOk (fun _ d => ∃ R, RoomsOk R ∧ RMore R ∧ d = eRooms R)
theorem ev_deeds {σ : L2.St} {H : Hp} {t0 t1 : TE} {n ev : Int} {E : XK} (h0 : Ev t0 σ H (.int n)) (h1 : Ev t1 σ H (.int ev)) (he : 1 ≤ ev) : EvD K (tCall (spDeeds K) [] E (tCons t0 (tCons t1 tNil))) σ H (eDeeds (deedsF n ev)) :=
  evd_call (n, ev) (ead_cons (evd_int h0) (ead_cons (evd_int h1) ead_nil)) he
theorem rep_snoc (n : Nat) (x : Int) : List.replicate (n + 1) x = List.replicate n x ++ [x] := List.replicate_succ' ..
set_option maxHeartbeats 1000000 in
theorem cal_law_rooms (T : Txt mg) (F : DefAt K mg "_law_rooms" s_law_rooms ["_law_script", "_law_events"]) (c_law_mixed : C8.Cal P w K mg base 2 "_law_mixed" (spMix K) []) (c_law_deeds : C8.Cal P w K mg base 1 "_law_deeds" (spDeeds K) []) : C8.Cal P w K mg base 3 "_law_rooms" (spRooms K) [] := by
  refine cal_of F sc_law_rooms (len_X fun _ => rfl) (fun f cdv A outer s H vs Q E hr h => ?_)
  obtain ⟨⟨ns, ev⟩, hv, ⟨h63, hev⟩, q⟩ := h
  dsimp only at hv h63 hev q
  obtain ⟨v, u, rfl, hn, hu⟩ := dpa2 hv
  have eu := dp_int hu
  subst eu
  refine ⟨_, (pss_cons (ps_set (i := 2) sc_law_rooms.nd rfl (.inl rfl) (pe_lst (pa_cons pe_int (pa_cons pe_int pa_nil))))
    (pss_cons (ps_for PassesOwn.never rfl (pi_range1 (by rfl) T.m_range (pa_cons (pe_op op_add pe_int (pe_op op_mod (C8.pe_c c_law_mixed hr (by omega) (by rfl) (pa_cons (pv 0) (pa_cons pe_int (pa_cons pe_int pa_nil)))) pe_int)) pa_nil)) (pg_name (i := 3) sc_law_rooms.nd rfl (.inl rfl)) (pss_cons (ps_expr (pe_bm PySem.F.plainAttrs_list PySem.F.slot_list_append PySem.F.type_list_append mt_append (pv 2) (pa_cons pe_int pa_nil)))
    (pss_one (ps_for PassesOwn.never rfl (pi_range1 (by rfl) T.m_range (pa_cons (pe_op op_add pe_int (pe_op op_mod (C8.pe_c c_law_mixed hr (by omega) (by rfl) (pa_cons (pv 0) (pa_cons (pe_op op_add pe_int (pv 3)) (pa_cons pe_int pa_nil)))) pe_int)) pa_nil)) (pg_name (i := 4) sc_law_rooms.nd rfl (.inl rfl)) (pss_one (ps_expr (pe_bm PySem.F.plainAttrs_list PySem.F.slot_list_append PySem.F.type_list_append mt_append (pv 2) (pa_cons pe_int pa_nil))))))))
    (pss_cons (ps_for PassesOwn.never rfl (pi_range1 (by rfl) T.m_range (pa_cons (pe_op op_add pe_int (pe_op op_mod (C8.pe_c c_law_mixed hr (by omega) (by rfl) (pa_cons (pv 0) (pa_cons pe_int (pa_cons pe_int pa_nil)))) pe_int)) pa_nil)) (pg_name (i := 3) sc_law_rooms.nd rfl (.inl rfl)) (pss_one (ps_expr (pe_bm PySem.F.plainAttrs_list PySem.F.slot_list_append PySem.F.type_list_append mt_append (pv 2) (pa_cons pe_int pa_nil)))))
    (pss_cons (ps_set (i := 5) sc_law_rooms.nd rfl (.inl rfl) (pe_lst pa_nil))
    (pss_cons (ps_for PassesOwn.never rfl (pi_range1 (by rfl) T.m_range (pa_cons (pe_callB call_len_seq (by rfl) T.m_len (by decide +kernel) (pa_cons (pv 2) pa_nil)) pa_nil)) (pg_name (i := 3) sc_law_rooms.nd rfl (.inl rfl)) (pss_cons (ps_set (i := 6) sc_law_rooms.nd rfl (.inl rfl) (pe_ix ix_list (pe_lst (pa_cons pe_str (pa_cons pe_str (pa_cons pe_str (pa_cons pe_str pa_nil))))) (pe_ix ix_list (pv 2) (pv 3) (fun _ _ => rfl)) (fun _ _ => rfl)))
    (pss_cons (ps_if (PW.pt (pw_and (pt_cmpR op_eq (pe_ix ix_list (pv 2) (pv 3) (fun _ _ => rfl)) pe_int (nomark _)) (pw_and1 (pt_cmpR op_gt (pv 3) pe_int (nomark _))))) (pss_one (ps_set (i := 6) sc_law_rooms.nd rfl (.inl rfl) pe_str)) pss_nil)
    (pss_cons (ps_set (i := 7) sc_law_rooms.nd rfl (.inl rfl) pe_str)
    (pss_cons (ps_if (pt_cmpR op_ne (pv 6) pe_str (nomark _)) (pss_one (ps_set (i := 7) sc_law_rooms.nd rfl (.inl rfl) (pe_ix ix_list (pe_lst (pa_cons pe_str (pa_cons pe_str pa_nil))) (pe_op op_mod (C8.pe_c c_law_mixed hr (by omega) (by rfl) (pa_cons (pv 0) (pa_cons (pe_op op_add pe_int (pv 3)) (pa_cons pe_int pa_nil)))) pe_int) (fun _ _ => rfl)))) pss_nil)
    (pss_cons (ps_set (i := 8) sc_law_rooms.nd rfl (.inl rfl) (C8.pe_c c_law_deeds hr (by omega) (by rfl) (pa_cons (C8.pe_c c_law_mixed hr (by omega) (by rfl) (pa_cons (pv 0) (pa_cons (pe_op op_add pe_int (pv 3)) (pa_cons pe_int pa_nil)))) (pa_cons (pv 1) pa_nil))))
    (pss_cons (ps_set (i := 9) sc_law_rooms.nd rfl (.inl rfl) (C8.pe_c c_law_deeds hr (by omega) (by rfl) (pa_cons (C8.pe_c c_law_mixed hr (by omega) (by rfl) (pa_cons (pv 0) (pa_cons (pe_op op_add pe_int (pv 3)) (pa_cons pe_int pa_nil)))) (pa_cons (pv 1) pa_nil))))
    (pss_one (ps_expr (pe_bm PySem.F.plainAttrs_list PySem.F.slot_list_append PySem.F.type_list_append mt_append (pv 5) (pa_cons (pe_tup (pa_cons (pe_op op_add_str pe_str (pe_ix ix_str pe_str (pv 3) (fun _ _ => rfl))) (pa_cons (pv 6) (pa_cons (pe_ix ix_list (pv 2) (pv 3) (fun _ _ => rfl)) (pa_cons (pv 7) (pa_cons pe_str (pa_cons (pv 8) (pa_cons (pv 9) pa_nil)))))))) pa_nil)))))))))))
    (pss_one (ps_ret (pe_callTy call_tuple_of (by rfl) T.m_tuple (by decide +kernel) (pa_cons (pv 5) pa_nil))))))))), ?_⟩
  have mx : ∀ {a b : Int}, 0 ≤ a → a ≤ 1000 → 0 ≤ b → b ≤ 100 → mixOk (ns, a, b) := fun h1 h2 h3 h4 => ⟨h63, h1, h2, h3, h4⟩
  have nnE : ∀ i m : Int, 0 < m → 0 ≤ i % m ∧ i % m < m := fun i m hm => ⟨Int.emod_nonneg _ (by omega), Int.emod_lt_of_pos _ hm⟩
  -- depths
  refine q_asgL (xs := ([0, 1] ++ blks []).map V.int) (el_lst (ea_cons ev_c (ea_cons ev_c ea_nil)) (by show 2 ≤ 100000; omega)) fun p H1 np e1 hp => ?_
  have m1 := nnE (mixF ns 0 1) 3 (by decide)
  refine q_forR1 (ea_cons (ev_op ev_c (ev_modc (ev_mix (evd_var rfl (mv hn e1)) ev_c ev_c (mx (by decide) (by decide) (by decide) (by decide))) (by decide)) rv_I0) ea_nil) (by omega)
    (fun i σ' H' => Ex H H' ∧ (∃ y z, σ' = [some v, some (.int ev), some (.ref p), y, z, none, none, none, none, none]) ∧ ∃ ms : List Nat, ms.length = i ∧ msOk ms ∧ H' p = some (.lst (([0, 1] ++ blks ms).map V.int)))
    (fun H2 e2 => ⟨e1.trans e2, ⟨_, _, rfl⟩, [], rfl, (fun m h => nomatch h), e2 _ _ hp⟩) (fun i σ' H' hi ⟨e, ⟨y, z, es⟩, ms, hms, mok, hl⟩ => ?_) fun σ' H' ⟨e, ⟨y, z, es⟩, ms, hms, mok, hl⟩ => ?_
  · subst es
    have hbl := blks_len mok
    have hi4 : i < 4 := by omega
    refine q_app hl (ev_var rfl) ev_c (by
      rw [List.length_map, List.length_append]
      show 2 + _ < 100000
      omega) fun H2 e2 => ?_
    have e02 := (e.trans e2).mut (o := .lst (([0, 1] ++ blks ms).map V.int ++ [.int 2])) np
    have m2 := nnE (mixF ns (1 + (i : Int)) 1) 3 (by decide)
    refine s_forR1 (ea_cons (ev_op ev_c (ev_modc (ev_mix (evd_var rfl (mv hn e02)) (ev_op ev_c (ev_var rfl) rv_I0) ev_c (mx (by omega) (by omega) (by decide) (by decide))) (by decide)) rv_I0) ea_nil) (by omega)
      (fun j σ' H' => Ex H H' ∧ (∃ y z, σ' = [some v, some (.int ev), some (.ref p), y, z, none, none, none, none, none]) ∧ H' p = some (.lst (([0, 1] ++ blks ms ++ (2 :: List.replicate j 3)).map V.int)))
      (fun H3 e3 => ⟨e02.trans e3, ⟨_, _, rfl⟩, ?_⟩) (fun j σ' H' hj ⟨e, ⟨y, z, es⟩, hl⟩ => ?_) fun σ' H' ⟨e, ⟨y, z, es⟩, hl⟩ => ?_
    · rw [e3 _ _ upd_same, List.map_append (l₂ := 2 :: List.replicate 0 3)]
      rfl
    · subst es
      refine s_app hl (ev_var rfl) ev_c (by
        have z1 : (2 :: List.replicate j (3 : Int)).length = j + 1 := by rw [List.length_cons, List.length_replicate]
        rw [List.length_map, List.length_append, List.length_append, z1]
        show 2 + _ + _ < 100000
        omega) fun H4 e4 => ⟨(e.trans e4).mut np, ⟨_, _, rfl⟩, ?_⟩
      rw [upd_same, rep_snoc, ← List.cons_append, ← List.append_assoc, List.map_append (l₂ := [3])]
      rfl
    · subst es
      refine ⟨e, ⟨_, _, rfl⟩, ms ++ [(1 + mixF ns (1 + (i : Int)) 1 % 3).toNat], by rw [List.length_append, hms]; rfl, fun m hm => ?_, ?_⟩
      · rcases List.mem_append.mp hm with hm | hm
        · exact mok m hm
        · rw [List.mem_singleton] at hm
          omega
      · rw [blks_snoc, ← List.append_assoc]
        exact hl
  · subst es
    have hms2 : 2 ≤ ms.length ∧ ms.length ≤ 4 := by omega
    have hbl := blks_len mok
    have m3 := nnE (mixF ns 5 1) 2 (by decide)
    refine q_forR1 (ea_cons (ev_op ev_c (ev_modc (ev_mix (evd_var rfl (mv hn e)) ev_c ev_c (mx (by decide) (by decide) (by decide) (by decide))) (by decide)) rv_I0) ea_nil) (by omega)
      (fun j σ' H' => Ex H H' ∧ (∃ y z, σ' = [some v, some (.int ev), some (.ref p), y, z, none, none, none, none, none]) ∧ H' p = some (.lst ((([0, 1] ++ blks ms) ++ List.replicate j 1).map V.int)))
      (fun H3 e3 => ⟨e.trans e3, ⟨_, _, rfl⟩, ?_⟩) (fun j σ' H' hj ⟨e, ⟨y, z, es⟩, hl⟩ => ?_) fun σ' H' ⟨e, ⟨y, z, es⟩, hl⟩ => ?_
    · rw [e3 _ _ hl, List.replicate_zero, List.append_nil]
    · subst es
      refine s_app hl (ev_var rfl) ev_c (by
        rw [List.length_map, List.length_append, List.length_append, List.length_replicate]
        show 2 + _ + _ < 100000
        omega) fun H4 e4 => ⟨(e.trans e4).mut np, ⟨_, _, rfl⟩, ?_⟩
      rw [upd_same, rep_snoc, ← List.append_assoc, List.map_append (l₂ := [1])]
      rfl
    · subst es
      have dok : DepOk (depF ms (1 + mixF ns 5 1 % 2).toNat) := dep_ok mok hms2.1 hms2.2 (by omega)
      have hl' : H' p = some (.lst ((depF ms (1 + mixF ns 5 1 % 2).toNat).map V.int)) := hl
      clear hl
      generalize depF ms (1 + mixF ns 5 1 % 2).toNat = D at dok hl'
      have h20 := dok.most
      have hDl : ((D.map PyData.int).length : Int) = (D.length : Int) := by rw [List.length_map]
      -- rooms
      refine q_asgL (el_lst ea_nil (Nat.zero_le _)) fun pr H5 npr e5 hpr => ?_
      have e05 := e.trans e5
      have npr0 := fresh_back e npr
      have hp5 := e5 _ _ hl'
      have hpp : p ≠ pr := fun c => by
        rw [← c, hl'] at npr
        cases npr
      refine q_forR1 (ea_cons (ev_lenL (ds := D.map PyData.int) (evd_var rfl (dp_lints hp5))) ea_nil) (by omega)
        (fun i σ' H' => Ex H H' ∧ (∃ y z a b c d, σ' = [some v, some (.int ev), some (.ref p), y, z, some (.ref pr), a, b, c, d]) ∧ H' p = some (.lst (D.map V.int)) ∧ ∃ (R : List Room) (rs : List V), R.length = i ∧ (∀ (k : Nat) r, R[k]? = some r → RoomOk D k r) ∧ H' pr = some (.lst rs) ∧ DpAll K H' rs (R.map eRoom))
        (fun H6 e6 => ⟨e05.trans e6, ⟨_, _, _, _, _, _, rfl⟩, e6 _ _ hp5, [], [], rfl, (fun k r h => by cases h), e6 _ _ hpr, .nil⟩) (fun i σ' H' hi ⟨e, ⟨y, z, a, b, c, d, es⟩, hD, R, rs, hR, hok, hpr, hrs⟩ => ?_) fun σ' H' ⟨e, ⟨y, z, a, b, c, d, es⟩, hD, R, rs, hR, hok, hpr, hrs⟩ => ?_
      · subst es
        rw [hDl] at hi
        have hi2 : i < D.length := by omega
        obtain ⟨dd, hdd⟩ : ∃ dd, D[i]? = some dd := ⟨_, List.getElem?_eq_getElem hi2⟩
        have hdr := dok.rest i dd hdd
        have hdat : AtD (D.map PyData.int) (i : Int) (.int dd) := ⟨by omega, by rw [List.getElem?_map, show ((i : Nat) : Int).toNat = i by omega, hdd]; rfl⟩
        have edep : ∀ {H2 : Hp} {a b c d : Option V}, H2 p = some (.lst (D.map V.int)) → Ev (tOp (rIxL K) (tVar 2) (tVar 3)) [some v, some (.int ev), some (.ref p), some (.int (i : Int)), z, some (.ref pr), a, b, c, d] H2 (.int dd) := fun h2 => ev_int (evd_ixl (ds := D.map PyData.int) (evd_var rfl (dp_lints h2)) (ev_var rfl) hdat)
        -- kind
        refine q_asg (v := .str (kind0 dd)) (ev_str (evd_ixl (ds := kinds) (evd_lst (ead_cons (evd_str ev_c) (ead_cons (evd_str ev_c) (ead_cons (evd_str ev_c) (ead_cons (evd_str ev_c) ead_nil)))) (by show 4 ≤ 100000; omega)) (edep hD) (at_kind hdr))) fun H2 e2 => ?_
        refine q_ifAsg (v := .str (if (decide (dd = 1) && decide ((1 : Int) < (i : Int))) = true then "plain" else kind0 dd)) (et_and (et_test (ev_eqI (edep (e2 _ _ hD)) ev_c)) fun _ => et_test (ev_op (ev_var rfl) ev_c rv_I0)) (fun hb => by
          rw [if_pos hb]
          exact ev_c) (fun hb => by
          rw [if_neg (by rw [hb]; exact Bool.false_ne_true)]
          rfl) fun H3 e3 => ?_
        have e23 := e2.trans e3
        generalize hkd : (if (decide (dd = 1) && decide ((1 : Int) < (i : Int))) = true then ("plain" : Str) else kind0 dd) = kd
        -- keeps
        refine q_asg (v := .str "") ev_c fun H4 e4 => ?_
        have e24 := e23.trans e4
        have e04 := e.trans e24
        refine q_ifAsg (v := .str (if (!decide (kd = "plain")) = true then keep0 (mixF ns (6 + (i : Int)) 2 % 2) else "")) (et_test (ev_neS (ev_var rfl) ev_c)) (fun hb => by
          rw [if_pos hb]
          exact ev_str (evd_ixl (evd_lst (ead_cons (evd_str ev_c) (ead_cons (evd_str ev_c) ead_nil)) (by show 2 ≤ 100000; omega)) (ev_modc (ev_mix (evd_var rfl (mv hn e04)) (ev_op ev_c (ev_var rfl) rv_I0) ev_c (mx (by omega) (by omega) (by decide) (by decide))) (by decide)) (at_keep _))) (fun hb => by
          rw [if_neg (by rw [hb]; exact Bool.false_ne_true)]
          rfl) fun H5 e5 => ?_
        have e25 := e24.trans e5
        have e05 := e.trans e25
        have hkp : (if (!decide (kd = "plain")) = true then keep0 (mixF ns (6 + (i : Int)) 2 % 2) else ("" : Str)) = "" ∨ (if (!decide (kd = "plain")) = true then keep0 (mixF ns (6 + (i : Int)) 2 % 2) else ("" : Str)) = "deep" := by
          unfold keep0
          split
          · split
            · exact .inl rfl
            · exact .inr rfl
          · exact .inl rfl
        generalize (if (!decide (kd = "plain")) = true then keep0 (mixF ns (6 + (i : Int)) 2 % 2) else ("" : Str)) = kp at hkp
        -- ins, outs
        refine q_asgD (ev_deeds (ev_mix (evd_var rfl (mv hn e05)) (ev_op ev_c (ev_var rfl) rv_I0) ev_c (mx (by omega) (by omega) (by decide) (by decide))) (ev_var rfl) hev) fun vi H6 e6 hvi => ?_
        have e06 := e05.trans e6
        refine q_asgD (ev_deeds (ev_mix (evd_var rfl (mv hn e06)) (ev_op ev_c (ev_var rfl) rv_I0) ev_c (mx (by omega) (by omega) (by decide) (by decide))) (ev_var rfl) hev) fun vo H7 e7 hvo => ?_
        have e27 := (e25.trans e6).trans e7
        have hpr7 := e27 _ _ hpr
        have hrl := dpa_len hrs
        rw [List.length_map] at hrl
        generalize hin : deedsF (mixF ns (6 + (i : Int)) 3) ev = din at hvi
        generalize hou : deedsF (mixF ns (6 + (i : Int)) 4) ev = dou at hvo
        refine s_appD (d := eRoom ⟨"room" ++ letF "abcdefghijklmnopqrstuv" (i : Int), kd, dd, kp, din, dou⟩) hpr7 (ev_var rfl) (evd_tup (ead_cons (evd_str (ev_op ev_c (ev_let (ev_var rfl) (by decide +kernel) (by omega) (by
          have z : ((("abcdefghijklmnopqrstuv" : Str).cps.toList.length : Nat) : Int) = 22 := by decide +kernel
          omega)) (rv_addS (by
          show ("room" : Str).length + 1 ≤ 100000
          decide +kernel)))) (ead_cons (evd_str (ev_var rfl)) (ead_cons (evd_int (edep (e27 _ _ hD))) (ead_cons (evd_str (ev_var rfl)) (ead_cons (evd_str ev_c) (ead_cons (evd_var rfl (mv hvi e7)) (ead_cons (evd_var rfl hvo) ead_nil))))))) (by show 7 ≤ 100000; omega)) (by omega) fun x H8 e8 hx => ?_
        have hpr8 := e8 _ _ hpr7
        have tu : TK H8 (upd H8 pr (.lst (rs ++ [x]))) := tk_upd hpr8 trivial
        refine ⟨((e.trans e27).trans e8).mut npr0, ⟨_, _, _, _, _, _, rfl⟩, ?_, R ++ [⟨"room" ++ letF "abcdefghijklmnopqrstuv" (i : Int), kd, dd, kp, din, dou⟩], rs ++ [x], by rw [List.length_append, hR]; rfl, fun k r hk => ?_, upd_same, ?_⟩
        · rw [upd_ne hpp]
          exact e8 _ _ (e27 _ _ hD)
        · by_cases hki : k < R.length
          · rw [List.getElem?_append_left hki] at hk
            exact hok k r hk
          · rw [List.getElem?_append_right (by omega)] at hk
            have hk0 : k - R.length = 0 := by
              have z := (List.getElem?_eq_some_iff.mp hk).1
              rw [List.length_singleton] at z
              omega
            rw [hk0] at hk
            have er := Option.some.inj hk
            subst er
            have eki : k = i := by omega
            subst eki
            refine ⟨hdd, fun h02 => ?_, hkp, ?_, ?_⟩
            · show kd = "one"
              have h02' : dd = 0 ∨ dd = 2 := h02
              rw [← hkd, if_neg (by
                rw [Bool.and_eq_true]
                intro z
                have z1 := of_decide_eq_true z.1
                omega)]
              rcases h02' with e | e <;> subst e <;> rfl
            · show din.length ≤ 3
              rw [← hin]
              exact deeds_len _ _
            · show dou.length ≤ 3
              rw [← hou]
              exact deeds_len _ _
        · rw [List.map_append]
          exact dpa_app (dpa_tk ((tk_ex (e27.trans e8)).trans tu) _ _ (nol_map nol_eRoom _) hrs) (.cons (mt hx tu (nol_eRoom _)) .nil)
      · subst es
        have hRl : R.length = D.length := by omega
        have ok := rooms_ok dok hRl hok
        refine s_retD (evd_tupL (evd_var rfl (.lst (SqL.of hpr) hrs))) fun v9 H9 e9 h9 => ?_
        exact q _ ⟨R, ok.1, ok.2, rfl⟩ v9 H9 (e.trans e9) h9
end
end Nh
/-! NhLDoors: the law's doors and stands. -/
namespace Nh
open PySem PySem.Spec PyProof.Rows L2 Evl
section
variable {P : Program} {w : World} {K : PySem.W.Frag} {mg : Str → Option Value} {base : Heap}
structure MkArg where
  ns : List Int
  rooms : List Room
  x : Int
def drOk (x : MkArg) : Prop := x.ns.length ≤ 63 ∧ RoomsOk x.rooms ∧ RMore x.rooms ∧ 1 ≤ x.x
def spDoors (K : PySem.W.Frag) : Sp := spX K (fun x : MkArg => [lints x.ns, eRooms x.rooms, .int x.x]) drOk (fun x d => ∃ D, D.length ≤ 14 ∧ (∀ y ∈ D, DoorOk x.rooms y) ∧ d = eDoors D)
def lowF (R : List Room) : List Int := ((List.range R.length).filter fun (i : Nat) => decide (dep R (i : Int) = 3)).map fun (i : Nat) => (i : Int)
theorem low_mem {R : List Room} {r : Int} (h : r ∈ lowF R) : 0 ≤ r ∧ r < R.length := by
  obtain ⟨i, hi, e⟩ := List.mem_map.mp h
  have z := List.mem_range.mp (List.mem_filter.mp hi).1
  omega
theorem low_pos {R : List Room} (m : RMore R) : 0 < (lowF R).length := by
  obtain ⟨k, h0, h1, h3⟩ := m.three
  have hm : k ∈ lowF R := List.mem_map.mpr ⟨k.toNat, List.mem_filter.mpr ⟨List.mem_range.mpr (by omega), by
    rw [show ((k.toNat : Nat) : Int) = k by omega]
    exact decide_eq_true h3⟩, by omega⟩
  exact List.length_pos_of_mem hm
set_option maxHeartbeats 1000000 in
theorem cal_law_doors (T : Txt mg) (F : DefAt K mg "_law_doors" s_law_doors ["_law_script", "_law_rooms_here", "_law_events"]) (c_law_mixed : C8.Cal P w K mg base 2 "_law_mixed" (spMix K) []) (c_law_deeds : C8.Cal P w K mg base 1 "_law_deeds" (spDeeds K) []) : C8.Cal P w K mg base 3 "_law_doors" (spDoors K) [] := by
  refine cal_of F sc_law_doors (len_X fun _ => rfl) (fun f cdv A outer s H vs Q E hr h => ?_)
  obtain ⟨⟨ns, R, ev⟩, hv, ⟨h63, rok, rmo, hev⟩, q⟩ := h
  dsimp only at hv h63 rok rmo hev q
  obtain ⟨v, g, u, rfl, hn, hR, hu⟩ := dpa3 hv
  have eu := dp_int hu
  subst eu
  have h20 := rok.most
  have hpos := rok.pos
  have hRl : ((R.map eRoom).length : Int) = (R.length : Int) := by rw [List.length_map]
  have mx : ∀ {a b : Int}, 0 ≤ a → a ≤ 1000 → 0 ≤ b → b ≤ 100 → mixOk (ns, a, b) := fun h1 h2 h3 h4 => ⟨h63, h1, h2, h3, h4⟩
  have nnE : ∀ i m : Int, 0 < m → 0 ≤ i % m ∧ i % m < m := fun i m hm => ⟨Int.emod_nonneg _ (by omega), Int.emod_lt_of_pos _ hm⟩
  refine ⟨_, (pss_cons (ps_setLc (i := 3) (own := [("_law_k", 4)]) (g := gName 4) (by rfl) sc_law_doors.nd rfl rfl (sw_true rfl rfl rfl (by decide +kernel)) (pi_range1 (by rfl) T.m_range (pa_cons (pe_callB call_len_seq (by rfl) T.m_len (by decide +kernel) (pa_cons (pv 1) pa_nil)) pa_nil)) (blkOk_by (own := [("_law_k", 4)]) (N := N_law_doors) (sc := defScope s_law_doors) (by decide +kernel)) (fun _ _ _ _ _ => pg_name (i := 4) sc_law_doors.nd rfl (.inl rfl)) (fun _ _ _ _ _ => (pts_one (pt_cmpR op_eq (pe_ix (r := rIxT K) ix_tup (pe_ix (r := rIxT K) ix_tup (pv 1) (pv 4) (fun _ _ => rfl)) pe_int (fun _ _ => rfl)) pe_int (nomark _)))) (fun _ _ _ _ _ => (pv 4)))
    (pss_cons (ps_set (i := 5) sc_law_doors.nd rfl (.inl rfl) (pe_lst pa_nil))
    (pss_cons (ps_for PassesOwn.never rfl (pi_range1 (by rfl) T.m_range (pa_cons (pe_op op_add pe_int (pe_op op_mod (C8.pe_c c_law_mixed hr (by omega) (by rfl) (pa_cons (pv 0) (pa_cons pe_int (pa_cons pe_int pa_nil)))) pe_int)) pa_nil)) (pg_name (i := 4) sc_law_doors.nd rfl (.inl rfl)) (pss_cons (ps_set (i := 6) sc_law_doors.nd rfl (.inl rfl) (C8.pe_c c_law_mixed hr (by omega) (by rfl) (pa_cons (pv 0) (pa_cons (pe_op op_add pe_int (pv 4)) (pa_cons pe_int pa_nil)))))
    (pss_cons (ps_set (i := 7) sc_law_doors.nd rfl (.inl rfl) (pe_ix ix_list (pv 3) (pe_op op_mod (pe_op op_fdiv (pv 6) pe_int) (pe_callB call_len_seq (by rfl) T.m_len (by decide +kernel) (pa_cons (pv 3) pa_nil))) (fun _ _ => rfl)))
    (pss_cons (ps_if (pt_cmpR op_eq (pe_op op_mod (pv 6) pe_int) pe_int (nomark _)) (pss_one (ps_set (i := 7) sc_law_doors.nd rfl (.inl rfl) (pe_op op_mod (pe_op op_fdiv (pv 6) pe_int) (pe_callB call_len_seq (by rfl) T.m_len (by decide +kernel) (pa_cons (pv 1) pa_nil))))) pss_nil)
    (pss_cons (ps_set (i := 8) sc_law_doors.nd rfl (.inl rfl) (pe_op op_mod (C8.pe_c c_law_mixed hr (by omega) (by rfl) (pa_cons (pv 0) (pa_cons (pe_op op_add pe_int (pv 4)) (pa_cons pe_int pa_nil)))) (pe_callB call_len_seq (by rfl) T.m_len (by decide +kernel) (pa_cons (pv 1) pa_nil))))
    (pss_cons (ps_set (i := 9) sc_law_doors.nd rfl (.inl rfl) pe_str)
    (Evl.pss_cut (ps_if (pt_cmpR op_eq (pe_op op_mod (pe_op op_fdiv (pv 6) pe_int) pe_int) pe_int (nomark _)) (pss_cons (ps_set (i := 9) sc_law_doors.nd rfl (.inl rfl) pe_str)
    (pss_one (ps_set (i := 8) sc_law_doors.nd rfl (.inl rfl) pe_non))) (pss_one (ps_if (PW.pt (pw_and (pt_cmpR op_ne (pe_ix ix_tup (pe_ix ix_tup (pv 1) (pv 8) (fun _ _ => rfl)) pe_int (fun _ _ => rfl)) pe_str (nomark _)) (pw_and1 (pt_cmpR op_eq (pe_op op_mod (pe_op op_fdiv (pv 6) pe_int) pe_int) pe_int (nomark _))))) (pss_one (ps_set (i := 9) sc_law_doors.nd rfl (.inl rfl) pe_str)) pss_nil)))
    (pss_cons (ps_set (i := 10) sc_law_doors.nd rfl (.inl rfl) (pe_tup (pa_cons pe_str pa_nil)))
    (Evl.pss_cut (ps_if (pt_cmpR op_eq (pe_op op_mod (pe_op op_fdiv (pv 6) pe_int) pe_int) pe_int (nomark _)) (pss_one (ps_set (i := 10) sc_law_doors.nd rfl (.inl rfl) (pe_tup (pa_cons pe_str (pa_cons pe_int (pa_cons (pe_op op_mod (C8.pe_c c_law_mixed hr (by omega) (by rfl) (pa_cons (pv 0) (pa_cons (pe_op op_add pe_int (pv 4)) (pa_cons pe_int pa_nil)))) pe_int) pa_nil)))))) pss_nil)
    (pss_cons (ps_set (i := 11) sc_law_doors.nd rfl (.inl rfl) (C8.pe_c c_law_deeds hr (by omega) (by rfl) (pa_cons (C8.pe_c c_law_mixed hr (by omega) (by rfl) (pa_cons (pv 0) (pa_cons (pe_op op_add pe_int (pv 4)) (pa_cons pe_int pa_nil)))) (pa_cons (pv 2) pa_nil))))
    (pss_one (ps_expr (pe_bm PySem.F.plainAttrs_list PySem.F.slot_list_append PySem.F.type_list_append mt_append (pv 5) (pa_cons (pe_tup (pa_cons (pv 7) (pa_cons (pe_op op_mod (C8.pe_c c_law_mixed hr (by omega) (by rfl) (pa_cons (pv 0) (pa_cons (pe_op op_add pe_int (pv 4)) (pa_cons pe_int pa_nil)))) (pv 2)) (pa_cons (pv 10) (pa_cons (pv 11) (pa_cons (pv 9) (pa_cons (pv 8) pa_nil))))))) pa_nil))))))))))))))
    (pss_one (ps_ret (pe_callTy call_tuple_of (by rfl) T.m_tuple (by decide +kernel) (pa_cons (pv 5) pa_nil))))))), ?_⟩
  -- low
  have elow : given ((R.map eRoom).length : Int).toNat (fun (i : Nat) => decide (dep R (i : Int) = 3)) (fun (i : Nat) => V.int (i : Int)) = (lowF R).map V.int := by
    unfold given lowF
    rw [List.map_map, hRl]
    rfl
  refine q_asgL (xs := (lowF R).map V.int) (by
    rw [← elow]
    exact el_lcR1 (fun (i : Nat) => decide (dep R (i : Int) = 3)) (fun (i : Nat) => V.int (i : Int)) (ea_cons (ev_lenT (ds := R.map eRoom) (evd_var rfl hR)) ea_nil) (by omega) (fun x => rfl) (fun i H1 e1 hi => et_test (ev_eqI (ev_dep (evd_var rfl (mv hR e1)) (ev_var rfl) (by omega) (by omega)) ev_c)) (fun i H1 e1 _ _ => ev_var rfl)) fun pl H1 npl e1 hpl => ?_
  have hlp := low_pos rmo
  have hll : (lowF R).length ≤ 20 := by
    unfold lowF
    rw [List.length_map]
    have z := List.length_filter_le (fun i => decide (dep R ((i : Nat) : Int) = 3)) (List.range R.length)
    rw [List.length_range] at z
    omega
  generalize hlow : lowF R = low at hpl hlp hll
  have hlm : ∀ r ∈ low, 0 ≤ r ∧ r < R.length := fun r hr => by
    rw [← hlow] at hr
    exact low_mem hr
  have hlowl : ((low.map PyData.int).length : Int) = (low.length : Int) := by rw [List.length_map]
  -- doors
  refine q_asgL (el_lst ea_nil (Nat.zero_le _)) fun p H2 np e2 hp => ?_
  have e12 := e1.trans e2
  have npH := fresh_back e1 np
  have hpp : pl ≠ p := fun c => by
    rw [← c, hpl] at np
    cases np
  have m1 := nnE (mixF ns 1 5) 14 (by decide)
  refine q_forR1 (ea_cons (ev_op ev_c (ev_modc (ev_mix (evd_var rfl (mv hn e12)) ev_c ev_c (mx (by decide) (by decide) (by decide) (by decide))) (by decide)) rv_I0) ea_nil) (by omega)
    (fun i σ' H' => Ex H H' ∧ (∃ y a b c d e f, σ' = [some v, some g, some (.int ev), some (.ref pl), y, some (.ref p), a, b, c, d, e, f]) ∧ H' pl = some (.lst (low.map V.int)) ∧ ∃ (D : List Door) (rs : List V), D.length = i ∧ (∀ y ∈ D, DoorOk R y) ∧ H' p = some (.lst rs) ∧ DpAll K H' rs (D.map eDoor))
    (fun H3 e3 => ⟨e12.trans e3, ⟨_, _, _, _, _, _, _, rfl⟩, e3 _ _ (e2 _ _ hpl), [], [], rfl, (fun y h => by cases h), e3 _ _ hp, .nil⟩) (fun i σ' H' hi ⟨e, ⟨y, a, b, c, d, z, f, es⟩, hl, D, rs, hD, hok, hpd, hrs⟩ => ?_) fun σ' H' ⟨e, ⟨y, a, b, c, d, z, f, es⟩, hl, D, rs, hD, hok, hpd, hrs⟩ => ?_
  · subst es
    have hi14 : i < 14 := by omega
    have mk : ∀ {H1 : Hp} {s : Int} {a b c d e f : Option V} (k : Int), Ex H H1 → 0 ≤ s → s ≤ 100 → k = 7 + (i : Int) → Ev (tCall (spMix K) [] C8.E0 (tCons (tVar 0) (tCons (tOp (rI0 fun i j => .int (i + j)) (tC (.int 7)) (tVar 4)) (tCons (tC (.int s)) tNil)))) [some v, some g, some (.int ev), some (.ref pl), some (.int (i : Int)), some (.ref p), a, b, c, d, e, f] H1 (.int (mixF ns k s)) :=
      fun k e1 h1 h2 hk => by
        subst hk
        exact ev_mix (evd_var rfl (mv hn e1)) (ev_op ev_c (ev_var rfl) rv_I0) ev_c (mx (by omega) (by omega) h1 h2)
    -- number, room
    refine q_asg (mk (7 + (i : Int)) e (by decide) (by decide) rfl) fun H3 e3 => ?_
    have e03 := e.trans e3
    generalize mixF ns (7 + (i : Int)) 5 = num
    have ml := nnE (num / 60) (low.length : Int) (by omega)
    have hat : AtD (low.map PyData.int) (num / 60 % (low.length : Int)) (.int (low.getD (num / 60 % (low.length : Int)).toNat 0)) := at_ints ml.1 ml.2
    refine q_asg (v := .int (low.getD (num / 60 % (low.length : Int)).toNat 0)) (ev_int (evd_ixl (ds := low.map PyData.int) (evd_var rfl (dp_lints (e3 _ _ hl))) (by
      rw [← hlowl]
      exact ev_mod (ev_divc (ev_var rfl) ⟨by decide, by decide⟩) (ev_lenL (ds := low.map PyData.int) (evd_var rfl (dp_lints (e3 _ _ hl)))) (by omega)) hat)) fun H4 e4 => ?_
    have e04 := e03.trans e4
    have hr0 : 0 ≤ low.getD (num / 60 % (low.length : Int)).toNat 0 ∧ low.getD (num / 60 % (low.length : Int)).toNat 0 < R.length := by
      have z : (num / 60 % (low.length : Int)).toNat < low.length := by omega
      rw [List.getD_eq_getElem?_getD, List.getElem?_eq_getElem z]
      exact hlm _ (List.getElem_mem z)
    generalize low.getD (num / 60 % (low.length : Int)).toNat 0 = r0 at hr0
    have mr := nnE (num / 60) (R.length : Int) (by omega)
    refine q_ifAsg (v := .int (if decide (num % 4 = 0) = true then num / 60 % (R.length : Int) else r0)) (et_test (ev_eqI (ev_modc (ev_var rfl) (by decide)) ev_c)) (fun hb => by
      rw [if_pos hb, ← hRl]
      exact ev_mod (ev_divc (ev_var rfl) ⟨by decide, by decide⟩) (ev_lenT (ds := R.map eRoom) (evd_var rfl (mv hR e04))) (by omega)) (fun hb => by
      rw [if_neg (by rw [hb]; exact Bool.false_ne_true)]
      rfl) fun H5 e5 => ?_
    have e05 := e04.trans e5
    have hr1 : 0 ≤ (if decide (num % 4 = 0) = true then num / 60 % (R.length : Int) else r0) ∧ (if decide (num % 4 = 0) = true then num / 60 % (R.length : Int) else r0) < R.length := by
      split
      · exact mr
      · exact hr0
    generalize (if decide (num % 4 = 0) = true then num / 60 % (R.length : Int) else r0) = room at hr1
    -- goal, way
    have mg := nnE (mixF ns (7 + (i : Int)) 6) (R.length : Int) (by omega)
    refine q_asg (v := .int (mixF ns (7 + (i : Int)) 6 % (R.length : Int))) (by
      rw [← hRl]
      exact ev_mod (mk (7 + (i : Int)) e05 (by decide) (by decide) rfl) (ev_lenT (ds := R.map eRoom) (evd_var rfl (mv hR e05))) (by omega)) fun H6 e6 => ?_
    have e06 := e05.trans e6
    generalize mixF ns (7 + (i : Int)) 6 % (R.length : Int) = goal at mg
    refine q_asg (v := .str "to") ev_c fun H7 e7 => ?_
    have e07 := e06.trans e7
    refine q_cut (M := fun σ' H' => Ex H7 H' ∧ ∃ (way : Way) (gv : V), σ' = [some v, some g, some (.int ev), some (.ref pl), some (.int (i : Int)), some (.ref p), some (.int num), some (.int room), some gv, some (.str (eWay way)), z, f] ∧ gv = (match way with
        | .stay => V.non
        | _ => V.int goal)) ?_ ?_
    · refine s_if (et_test (ev_eqI (ev_modc (ev_divc (ev_var rfl) ⟨by decide, by decide⟩) (by decide)) ev_c)) (fun hb H8 e8 => ?_) fun hb H8 e8 => ?_
      · refine q_asg (v := .str "stay") ev_c fun H9 e9 => ?_
        exact s_asg (v := .non) ev_c fun HA eA => ⟨(e8.trans e9).trans eA, .stay, .non, rfl, rfl⟩
      · refine s_when (et_and (et_test (ev_neS (ev_keeps (evd_var rfl (mv hR (e07.trans e8))) (ev_var rfl) mg.1 mg.2) ev_c)) fun _ => et_test (ev_eqI (ev_modc (ev_divc (ev_var rfl) ⟨by decide, by decide⟩) (by decide)) ev_c)) (fun hb H9 e9 => ?_) fun hb H9 e9 => ?_
        · exact s_asg (v := .str "back") ev_c fun HA eA => ⟨(e8.trans e9).trans eA, .back, .int goal, rfl, rfl⟩
        · exact ⟨e8.trans e9, .to, .int goal, rfl, rfl⟩
    · rintro σ' H8 ⟨e78, way, gv, rfl, hgv⟩
      have e08 := e07.trans e78
      -- guard
      refine q_asgD (K := K) (d := eGuard .yes) (evd_tup (ead_cons (evd_str ev_c) ead_nil) (by show 1 ≤ 100000; omega)) fun gu H9 e9 hgu => ?_
      have e09 := e08.trans e9
      refine q_cut (M := fun σ' H' => Ex H9 H' ∧ ∃ (guard : Guard) (gu : V), σ' = [some v, some g, some (.int ev), some (.ref pl), some (.int (i : Int)), some (.ref p), some (.int num), some (.int room), some gv, some (.str (eWay way)), some gu, f] ∧ Dp K H' gu (eGuard guard)) ?_ ?_
      · refine s_when (et_test (ev_eqI (ev_modc (ev_divc (ev_var rfl) ⟨by decide, by decide⟩) (by decide)) ev_c)) (fun hb HA eA => ?_) fun hb HA eA => ?_
        · exact s_asgD (d := eGuard (.under (mixF ns (7 + (i : Int)) 7 % 6))) (evd_tup (ead_cons (evd_str ev_c) (ead_cons (evd_int ev_c) (ead_cons (evd_int (ev_modc (mk (7 + (i : Int)) (e09.trans eA) (by decide) (by decide) rfl) (by decide))) ead_nil))) (by show 3 ≤ 100000; omega)) fun gu2 HB eB hgu2 => ⟨eA.trans eB, _, gu2, rfl, hgu2⟩
        · exact ⟨eA, .yes, gu, rfl, mv hgu eA⟩
      · rintro σ' HA ⟨e9A, guard, gu2, rfl, hgu2⟩
        have e0A := e09.trans e9A
        -- deeds
        refine q_asgD (ev_deeds (mk (7 + (i : Int)) e0A (by decide) (by decide) rfl) (ev_var rfl) hev) fun vd HB eB hvd => ?_
        have e0B := e0A.trans eB
        have ehB : Ex H' HB := (((((((e3.trans e4).trans e5).trans e6).trans e7).trans e78).trans e9).trans e9A).trans eB
        have hdl := deeds_len (mixF ns (7 + (i : Int)) 8) ev
        generalize deedsF (mixF ns (7 + (i : Int)) 8) ev = dee at hvd hdl
        have hpB := ehB _ _ hpd
        have hrl := dpa_len hrs
        rw [List.length_map] at hrl
        have hgo : Dp K HB gv (eGoal ⟨room, mixF ns (7 + (i : Int)) 9 % ev, guard, dee, way, goal⟩) := by
          cases way with
          | stay =>
            rw [hgv]
            exact .non
          | to =>
            rw [hgv]
            exact .int goal
          | back =>
            rw [hgv]
            exact .int goal
        refine s_appD (d := eDoor ⟨room, mixF ns (7 + (i : Int)) 9 % ev, guard, dee, way, goal⟩) hpB (ev_var rfl) (evd_tup (ead_cons (evd_int (ev_var rfl)) (ead_cons (evd_int (ev_mod (mk (7 + (i : Int)) e0B (by decide) (by decide) rfl) (ev_var rfl) (by omega))) (ead_cons (evd_var rfl (mv hgu2 eB)) (ead_cons (evd_var rfl hvd) (ead_cons (evd_str (ev_var rfl)) (ead_cons (evd_var rfl hgo) ead_nil)))))) (by show 6 ≤ 100000; omega)) (by omega) fun x HC eC hx => ?_
        have hpC := eC _ _ hpB
        have tu : TK HC (upd HC p (.lst (rs ++ [x]))) := tk_upd hpC trivial
        refine ⟨(e0B.trans eC).mut npH, ⟨_, _, _, _, _, _, _, rfl⟩, ?_, D ++ [⟨room, mixF ns (7 + (i : Int)) 9 % ev, guard, dee, way, goal⟩], rs ++ [x], by rw [List.length_append, hD]; rfl, fun y hy => ?_, upd_same, ?_⟩
        · rw [upd_ne hpp]
          exact eC _ _ (ehB _ _ hl)
        · rcases List.mem_append.mp hy with hy | hy
          · exact hok y hy
          · rw [List.mem_singleton] at hy
            subst hy
            exact ⟨hr1, fun _ => mg, hdl⟩
        · rw [List.map_append]
          exact dpa_app (dpa_tk ((tk_ex (ehB.trans eC)).trans tu) _ _ (nol_map nol_eDoor _) hrs) (.cons (mt hx tu (nol_eDoor _)) .nil)
  · subst es
    refine s_retD (evd_tupL (evd_var rfl (.lst (SqL.of hpd) hrs))) fun v9 H9 e9 h9 => ?_
    exact q _ ⟨D, by omega, hok, rfl⟩ v9 H9 (e.trans e9) h9
end
end Nh
/-! NhLStand: the law's stands. -/
namespace Nh
open PySem PySem.Spec PyProof.Rows L2 Evl
theorem pw_len : ∀ (ns : List Int) (lo hi : Int), lo ≤ hi → ns.Pairwise (· < ·) → (∀ r ∈ ns, lo ≤ r ∧ r < hi) → (ns.length : Int) ≤ hi - lo
  | [], lo, hi, h, _, _ => by
    show ((0 : Nat) : Int) ≤ hi - lo
    omega
  | n :: ns, lo, hi, h, hp, hm => by
    have h1 := hm n List.mem_cons_self
    have h2 := List.pairwise_cons.mp hp
    have ih := pw_len ns (n + 1) hi (by omega) h2.2 fun r hr => by
      have z1 := h2.1 r hr
      have z2 := hm r (List.mem_cons_of_mem _ hr)
      omega
    rw [List.length_cons]
    omega
/-- the opening so far, ahead of room k -/
structure OpOk (R : List Room) (k : Int) (ns : List Int) : Prop where
  inr : ∀ r ∈ ns, 0 ≤ r ∧ r < R.length
  pw : ns.Pairwise (· < ·)
  low : ∀ r ∈ ns, r < k ∨ ∀ j : Int, k ≤ j → j ≤ r → dep R j = 3
theorem opn_skip {R : List Room} {k : Int} {ns : List Int} (h : OpOk R k ns) : OpOk R (k + 1) ns := by
  refine ⟨h.inr, h.pw, fun r hr => ?_⟩
  rcases h.low r hr with z | z
  · exact .inl (by omega)
  · exact .inr fun j h1 h2 => z j (by omega) h2
theorem opn_add {R : List Room} {k x : Int} {ns : List Int} (h : OpOk R k ns) (hk : 0 ≤ k) (hd : dep R k = 2) (hx : k < x) (hxl : x < R.length) (h3 : ∀ j : Int, k + 1 ≤ j → j ≤ x → dep R j = 3) : OpOk R (k + 1) (ns ++ [k, x]) := by
  have hlow : ∀ r ∈ ns, r < k := fun r hr => by
    rcases h.low r hr with z | z
    · exact z
    · by_cases c : r < k
      · exact c
      · have z2 := z k (Int.le_refl k) (by omega)
        omega
  refine ⟨fun r hr => ?_, ?_, fun r hr => ?_⟩
  · rcases List.mem_append.mp hr with hr | hr
    · exact h.inr r hr
    · rcases List.mem_cons.mp hr with e | e
      · omega
      · rw [List.mem_singleton] at e
        omega
  · rw [List.pairwise_append]
    refine ⟨h.pw, ?_, fun a ha b hb => ?_⟩
    · rw [List.pairwise_cons]
      refine ⟨fun a ha => ?_, List.pairwise_singleton _ _⟩
      rw [List.mem_singleton] at ha
      omega
    · have z := hlow a ha
      rcases List.mem_cons.mp hb with e | e
      · omega
      · rw [List.mem_singleton] at e
        omega
  · rcases List.mem_append.mp hr with hr | hr
    · exact .inl (by have z := hlow r hr; omega)
    · rcases List.mem_cons.mp hr with e | e
      · exact .inl (by omega)
      · rw [List.mem_singleton] at e
        refine .inr fun j h1 h2 => h3 j h1 (by omega)
section
variable {P : Program} {w : World} {K : PySem.W.Frag} {mg : Str → Option Value} {base : Heap}
def stOk (x : MkArg) : Prop := x.ns.length ≤ 63 ∧ RoomsOk x.rooms ∧ RMore x.rooms ∧ 0 ≤ x.x ∧ x.x ≤ 500
def spStand (K : PySem.W.Frag) : Sp := spX K (fun x : MkArg => [lints x.ns, eRooms x.rooms, .int x.x]) stOk (fun x d => ∃ S, StandOk x.rooms 20 S ∧ S.opening.Nodup ∧ d = eStand S)
set_option maxHeartbeats 1000000 in
theorem cal_law_stand (T : Txt mg) (F : DefAt K mg "_law_stand" s_law_stand ["_law_script", "_law_rooms_here", "_law_at"]) (c_law_mixed : C8.Cal P w K mg base 2 "_law_mixed" (spMix K) []) : C8.Cal P w K mg base 3 "_law_stand" (spStand K) [] := by
  refine cal_of F sc_law_stand (len_X fun _ => rfl) (fun f cdv A outer s H vs Q E hr h => ?_)
  obtain ⟨⟨ns, R, at0⟩, hv, ⟨h63, rok, rmo, ha0, ha5⟩, q⟩ := h
  dsimp only at hv h63 rok rmo ha0 ha5 q
  obtain ⟨v, g, u, rfl, hn, hR, hu⟩ := dpa3 hv
  have eu := dp_int hu
  subst eu
  have h20 := rok.most
  have h2 := rmo.least
  have hRl : ((R.map eRoom).length : Int) = (R.length : Int) := by rw [List.length_map]
  have mx : ∀ {a b : Int}, 0 ≤ a → a ≤ 1000 → 0 ≤ b → b ≤ 100 → mixOk (ns, a, b) := fun h1 h2 h3 h4 => ⟨h63, h1, h2, h3, h4⟩
  have nnE : ∀ i m : Int, 0 < m → 0 ≤ i % m ∧ i % m < m := fun i m hm => ⟨Int.emod_nonneg _ (by omega), Int.emod_lt_of_pos _ hm⟩
  refine ⟨_, (pss_cons (ps_set (i := 3) sc_law_stand.nd rfl (.inl rfl) (pe_lst (pa_cons pe_int (pa_cons pe_int pa_nil))))
    (pss_cons (ps_for PassesOwn.never rfl (pi_range2 (by rfl) T.m_range (pa_cons pe_int (pa_cons (pe_callB call_len_seq (by rfl) T.m_len (by decide +kernel) (pa_cons (pv 1) pa_nil)) pa_nil))) (pg_name (i := 4) sc_law_stand.nd rfl (.inl rfl)) (pss_one (ps_if (pt_cmpR op_eq (pe_ix ix_tup (pe_ix ix_tup (pv 1) (pv 4) (fun _ _ => rfl)) pe_int (fun _ _ => rfl)) pe_int (nomark _)) (pss_cons (ps_set (i := 5) sc_law_stand.nd rfl (.inl rfl) pe_int)
    (pss_cons (ps_while PassesOwn.never (PW.pt (pw_and (pt_cmpR op_lt (pe_op op_add (pe_op op_add (pv 4) (pv 5)) pe_int) (pe_callB call_len_seq (by rfl) T.m_len (by decide +kernel) (pa_cons (pv 1) pa_nil)) (nomark _)) (pw_and1 (pt_cmpR op_eq (pe_ix ix_tup (pe_ix ix_tup (pv 1) (pe_op op_add (pe_op op_add (pv 4) (pv 5)) pe_int) (fun _ _ => rfl)) pe_int (fun _ _ => rfl)) pe_int (nomark _))))) (pss_one (ps_set (i := 5) sc_law_stand.nd rfl (.inl rfl) (pe_op op_add (pv 5) pe_int))))
    (pss_one (ps_set (i := 3) sc_law_stand.nd rfl (.inl rfl) (pe_op op_cat (pv 3) (pe_lst (pa_cons (pv 4) (pa_cons (pe_op op_add (pe_op op_add (pv 4) pe_int) (pe_op op_mod (C8.pe_c c_law_mixed hr (by omega) (by rfl) (pa_cons (pv 0) (pa_cons (pe_op op_add (pv 2) (pv 4)) (pa_cons pe_int pa_nil)))) (pv 5))) pa_nil)))))))) pss_nil)))
    (pss_one (ps_ret (pe_tup (pa_cons (pe_callTy call_tuple_of (by rfl) T.m_tuple (by decide +kernel) (pa_cons (pv 3) pa_nil)) (pa_cons (pe_tup (pa_cons (pe_op op_mod (C8.pe_c c_law_mixed hr (by omega) (by rfl) (pa_cons (pv 0) (pa_cons (pv 2) (pa_cons pe_int pa_nil)))) pe_int) pa_nil)) (pa_cons (pe_callTy call_tuple_of (by rfl) T.m_tuple (by decide +kernel) (pa_cons (pe_lc (own := [("_law_room", 6)]) (g := gName 6) (by rfl) sc_law_stand.nd (pi_tup (pv 1)) (blkOk_by (own := [("_law_room", 6)]) (N := N_law_stand) (sc := defScope s_law_stand) (by decide +kernel)) (fun _ _ _ _ _ => pg_name (i := 6) sc_law_stand.nd rfl (.inl rfl)) (fun _ _ _ _ _ => pts_nil) (fun _ _ _ _ _ => (pe_tup pa_nil))) pa_nil)) pa_nil)))))))), ?_⟩
  refine q_asgL (xs := ([0, 1] : List Int).map V.int) (el_lst (ea_cons ev_c (ea_cons ev_c ea_nil)) (by show 2 ≤ 100000; omega)) fun p H1 np e1 hp => ?_
  refine q_forR2 (ea_cons ev_c (ea_cons (ev_lenT (ds := R.map eRoom) (evd_var rfl (mv hR e1))) ea_nil)) (by omega)
    (fun i σ' H' => Ex H H' ∧ ∃ (p : Addr) (op : List Int) (y z a : Option V), σ' = [some v, some g, some (.int at0), some (.ref p), y, z, a] ∧ H' p = some (.lst (op.map V.int)) ∧ OpOk R (2 + (i : Int)) op)
    (fun H2 e2 => ⟨e1.trans e2, p, [0, 1], _, _, _, rfl, e2 _ _ hp, ?_⟩) (fun i σ' H' hi ⟨e, p, op, y, z, a, es, hop, ok⟩ => ?_) fun σ' H' ⟨e, p, op, y, z, a, es, hop, ok⟩ => ?_
  · refine ⟨fun r hr => ?_, by decide, fun r hr => ?_⟩
    · rcases List.mem_cons.mp hr with e | e
      · omega
      · rw [List.mem_singleton] at e
        omega
    · rcases List.mem_cons.mp hr with e | e
      · exact .inl (by omega)
      · rw [List.mem_singleton] at e
        exact .inl (by omega)
  · subst es
    rw [hRl] at hi
    have R2 := mv hR e
    refine s_when (et_test (ev_eqI (ev_dep (evd_var rfl R2) (ev_var rfl) (by omega) hi) ev_c)) (fun hb H3 e3 => ?_) fun hb H3 e3 => ?_
    · have hd : dep R (2 + (i : Int)) = 2 := of_decide_eq_true hb
      have htw := rmo.two _ (by omega) hi hd
      have hol : (op.length : Int) ≤ (R.length : Int) - 0 := pw_len op 0 R.length (by omega) ok.pw ok.inr
      refine q_asg (v := .int 0) ev_c fun H4 e4 => ?_
      have e04 := (e.trans e3).trans e4
      have hop4 := e4 _ _ (e3 _ _ hop)
      refine q_while (fun m σ' H' => Ex H H' ∧ H' p = some (.lst (op.map V.int)) ∧ ∃ n : Nat, n + m = R.length ∧ (∀ j : Int, 1 ≤ j → j ≤ n → 2 + (i : Int) + j < R.length ∧ dep R (2 + (i : Int) + j) = 3) ∧ σ' = [some v, some g, some (.int at0), some (.ref p), some (.int (2 + (i : Int))), some (.int (n : Int)), a]) R.length
        ⟨e04, hop4, 0, by omega, fun j h1 h2 => by omega, rfl⟩ ?_
      rintro m σ' H5 ⟨e05, hop5, n, hnm, hn3, rfl⟩
      have R5 := mv hR e05
      refine ⟨_, et_and (et_test (ev_op (ev_op (ev_op (ev_var rfl) (ev_var rfl) rv_I0) ev_c rv_I0) (ev_lenT (ds := R.map eRoom) (evd_var rfl R5)) rv_I0)) (fun hlt => et_test (ev_eqI (ev_dep (evd_var rfl R5) (ev_op (ev_op (ev_var rfl) (ev_var rfl) rv_I0) ev_c rv_I0) (by omega) (by
        have z := of_decide_eq_true hlt
        rw [hRl] at z
        exact z)) ev_c)), fun hb H6 e6 => ?_, fun hb H6 e6 => ?_⟩
      · rw [Bool.and_eq_true] at hb
        have b1 := of_decide_eq_true hb.1
        have b2 := of_decide_eq_true hb.2
        rw [hRl] at b1
        refine ⟨fun σ2 H7 => Ex H H7 ∧ H7 p = some (.lst (op.map V.int)) ∧ ∃ n' : Nat, n' + (m - 1) = R.length ∧ (∀ j : Int, 1 ≤ j → j ≤ n' → 2 + (i : Int) + j < R.length ∧ dep R (2 + (i : Int) + j) = 3) ∧ σ2 = [some v, some g, some (.int at0), some (.ref p), some (.int (2 + (i : Int))), some (.int (n' : Int)), a], fun σ2 H7 z => ⟨m - 1, by omega, z⟩, ?_⟩
        refine s_asg (ev_op (ev_var rfl) ev_c rv_I0) fun H7 e7 => ⟨(e05.trans e6).trans e7, (e6.trans e7) _ _ hop5, n + 1, by omega, fun j h1 h2 => ?_, ?_⟩
        · by_cases c : j ≤ n
          · exact hn3 j h1 c
          · have ej : j = (n : Int) + 1 := by omega
            subst ej
            rw [show 2 + (i : Int) + ((n : Int) + 1) = 2 + (i : Int) + (n : Int) + 1 by omega]
            exact ⟨b1, b2⟩
        · rw [show ((n + 1 : Nat) : Int) = (n : Int) + 1 by omega]
          rfl
      · have hn1 : 1 ≤ n := by
          by_cases c : 1 ≤ n
          · exact c
          · exfalso
            obtain rfl : n = 0 := by omega
            have b1 : decide (2 + (i : Int) + ((0 : Nat) : Int) + 1 < ((R.map eRoom).length : Int)) = true := decide_eq_true (by rw [hRl]; omega)
            have b2 : decide (dep R (2 + (i : Int) + ((0 : Nat) : Int) + 1) = 3) = true := decide_eq_true (by
              rw [show 2 + (i : Int) + ((0 : Nat) : Int) + 1 = 2 + (i : Int) + 1 by omega]
              exact htw.2)
            rw [b1, b2] at hb
            cases hb
        have e06 := e05.trans e6
        have hop6 := e6 _ _ hop5
        have mm := nnE (mixF ns (at0 + (2 + (i : Int))) 10) (n : Int) (by omega)
        have hlast := hn3 (mixF ns (at0 + (2 + (i : Int))) 10 % (n : Int) + 1) (by omega) (by omega)
        refine s_asgL (xs := (op ++ [2 + (i : Int), 2 + (i : Int) + 1 + mixF ns (at0 + (2 + (i : Int))) 10 % (n : Int)]).map V.int) (by
          rw [List.map_append]
          refine el_catN (ev_var rfl) hop6 (el_lst (ea_cons (ev_var rfl) (ea_cons (ev_op (ev_op (ev_var rfl) ev_c rv_I0) (ev_mod (ev_mix (evd_var rfl (mv hn e06)) (ev_op (ev_var rfl) (ev_var rfl) rv_I0) ev_c (mx (by omega) (by omega) (by decide) (by decide))) (ev_var rfl) (by omega)) rv_I0) ea_nil)) (by show 2 ≤ 100000; omega)) ?_
          rw [List.length_map, List.length_map]
          show op.length + 2 ≤ 100000
          omega) fun p2 H7 np2 e7 hp2 => ?_
        refine ⟨e06.trans e7, p2, _, _, _, _, rfl, hp2, ?_⟩
        rw [show 2 + ((i + 1 : Nat) : Int) = 2 + (i : Int) + 1 by omega]
        refine opn_add ok (by omega) hd (by omega) (by omega) fun j h1 h2 => ?_
        have z := (hn3 (j - (2 + (i : Int))) (by omega) (by omega)).2
        rw [show 2 + (i : Int) + (j - (2 + (i : Int))) = j by omega] at z
        exact z
    · refine ⟨e.trans e3, p, op, _, _, _, rfl, e3 _ _ hop, ?_⟩
      rw [show 2 + ((i + 1 : Nat) : Int) = 2 + (i : Int) + 1 by omega]
      exact opn_skip ok
  · subst es
    have hol : (op.length : Int) ≤ (R.length : Int) - 0 := pw_len op 0 R.length (by omega) ok.pw ok.inr
    have sok : StandOk R 20 ⟨op, mixF ns at0 11 % 5, R.map fun _ => []⟩ := ⟨ok.inr, by show op.length ≤ 20; omega, List.length_map .., fun row hr => by
      obtain ⟨_, _, e⟩ := List.mem_map.mp hr
      subst e
      exact Nat.zero_le _⟩
    have hnd : op.Nodup := ok.pw.imp fun h => by omega
    refine s_retD (d := eStand ⟨op, mixF ns at0 11 % 5, R.map fun _ => []⟩) (evd_tup (ead_cons (evd_tupL (evd_var rfl (dp_lints hop))) (ead_cons (evd_tup (ead_cons (evd_int (ev_modc (ev_mix (evd_var rfl (mv hn e)) (ev_var rfl) ev_c (mx (by omega) (by omega) (by decide) (by decide))) (by decide))) ead_nil) (by show 1 ≤ 100000; omega)) (ead_cons (evd_is (evd_tupL (evd_lcD (fun _ => .tuple []) (evd_var rfl (mv hR e)) (nol_map nol_eRoom R) (fun _ => rfl) (by rw [List.length_map]; omega) (fun x => rfl) fun d x H1 e1 _ _ => evd_tup ead_nil (Nat.zero_le _))) ?_) ead_nil))) (by show 3 ≤ 100000; omega)) fun v9 H9 e9 h9 => ?_
    · show PyData.tuple ((R.map eRoom).map fun _ => PyData.tuple []) = .tuple ((R.map fun _ => []).map eInts)
      rw [List.map_map, List.map_map]
      rfl
    · exact q _ ⟨_, sok, hnd, rfl⟩ v9 H9 (e.trans e9) h9
end
end Nh
/-! NhLChosen: the doors as the law chooses them. -/
namespace Nh
open PySem PySem.Spec PyProof.Rows L2 Evl
theorem filt_map (f : Int → Option Int) (p : Int → Bool) : ∀ O : List Int, ((O.filterMap fun r => (f r).map fun d => (r, d)).filter fun q => p q.1).map Prod.snd = ((O.filter fun r => (f r).isSome).filter p).filterMap f
  | [] => rfl
  | r :: O => by
    have ih := filt_map f p O
    cases c : f r with
    | none =>
      rw [List.filterMap_cons, c, List.filter_cons_of_neg (by rw [c]; exact Bool.false_ne_true)]
      exact ih
    | some d =>
      rw [List.filterMap_cons, c, List.filter_cons_of_pos (by rw [c]; rfl)]
      show (((r, d) :: _).filter _).map _ = _
      cases c2 : p r with
      | false =>
        rw [List.filter_cons_of_neg (by rw [c2]; exact Bool.false_ne_true), List.filter_cons_of_neg (by rw [c2]; exact Bool.false_ne_true)]
        exact ih
      | true =>
        rw [List.filter_cons_of_pos (by exact c2), List.filter_cons_of_pos c2, List.map_cons, List.filterMap_cons, c, ih]
theorem fst_map (f : Int → Option Int) : ∀ O : List Int, (O.filterMap fun r => (f r).map fun d => (r, d)).map Prod.fst = O.filter fun r => (f r).isSome
  | [] => rfl
  | r :: O => by
    have ih := fst_map f O
    cases c : f r with
    | none =>
      rw [List.filterMap_cons, c, List.filter_cons_of_neg (by rw [c]; exact Bool.false_ne_true)]
      exact ih
    | some d =>
      rw [List.filterMap_cons, c, List.filter_cons_of_pos (by rw [c]; rfl)]
      show r :: _ = _
      rw [ih]
theorem none_len (q : Int → Bool) (A : List Int) : decide ((A.filter q).length = 0) = !A.any q := by
  induction A with
  | nil => rfl
  | cons a A ih =>
    rw [List.any_cons]
    cases c : q a with
    | false =>
      rw [List.filter_cons_of_neg (by rw [c]; exact Bool.false_ne_true), ih]
      rfl
    | true =>
      rw [List.filter_cons_of_pos c]
      rfl
def ansL (c : Chart) (S : Stand) (event : Int) : List Int := S.opening.filter fun r => (ansF c S r event).isSome
def lChosF (c : Chart) (S : Stand) (event : Int) (l : List Int) : List Int := (l.filter fun r => decide (((ansL c S event).filter (aheadF c r)).length = 0)).filterMap fun r => ansF c S r event
theorem chosen_law (c : Chart) (S : Stand) (event : Int) : lChosF c S event (ansL c S event) = chosenF c S event := by
  have h1 := filt_map (fun r => ansF c S r event) (fun r => !(ansL c S event).any (aheadF c r)) S.opening
  have h2 := fst_map (fun r => ansF c S r event) S.opening
  have e1 : (fun r => decide (((ansL c S event).filter (aheadF c r)).length = 0)) = fun r => !(ansL c S event).any (aheadF c r) := funext fun r => none_len _ _
  unfold lChosF chosenF answersF
  rw [e1, h2]
  exact h1.symm
section
variable {P : Program} {w : World} {K : PySem.W.Frag} {mg : Str → Option Value} {base : Heap}
theorem ev_lans {σ : L2.St} {H : Hp} {t0 t1 t2 t3 : TE} {E : XK} {c : Chart} {S : Stand} {room event : Int} (h0 : EvD K t0 σ H (eChart c)) (h1 : EvD K t1 σ H (eStand S)) (h2 : Ev t2 σ H (.int room)) (h3 : Ev t3 σ H (.int event)) (ok : lAnsOk ⟨c, S, room, event⟩) :
    Ev (tCall (spLawAns K) [] E (tCons t0 (tCons t1 (tCons t2 (tCons t3 tNil))))) σ H (optV (ansF c S room event)) :=
  ev_opt (evd_call (⟨c, S, room, event⟩ : AnsArg) (ead_cons h0 (ead_cons h1 (ead_cons (evd_int h2) (ead_cons (evd_int h3) ead_nil)))) ok)
theorem ev_llies {σ : L2.St} {H : Hp} {t0 t1 t2 : TE} {E : XK} {R : List Room} {one other : Int} (h0 : EvD K t0 σ H (eRooms R)) (h1 : Ev t1 σ H (.int one)) (h2 : Ev t2 σ H (.int other)) (ok : liesOk (R, one, other)) :
    Ev (tCall (spLawLies K) [] E (tCons t0 (tCons t1 (tCons t2 tNil)))) σ H (.bl (liesF R one other)) :=
  ev_bl (evd_call (R, one, other) (ead_cons h0 (ead_cons (evd_int h1) (ead_cons (evd_int h2) ead_nil))) ok)
theorem ord_in (b : Bool) : decide (eOrd b = "inner") = b := by
  cases b <;> decide +kernel
theorem cal_law_chosen (T : Txt mg) (F : DefAt K mg "_law_chosen" s_law_chosen ["_law_chart", "_law_stand_here", "_law_event"]) (c_law_answer : C8.Cal P w K mg base 2 "_law_answer" (spLawAns K) []) (c_law_lies : C8.Cal P w K mg base 1 "_law_lies" (spLawLies K) []) : C8.Cal P w K mg base 3 "_law_chosen" (spChosen K) [] := by
  refine cal_of F sc_law_chosen (len_L fun _ => rfl) (fun f cdv A outer s H vs Q E hr h => ?_)
  obtain ⟨⟨c, S, event⟩, hv, ⟨cok, hnm, sok, hnd⟩, q⟩ := h
  dsimp only at hv cok hnm sok hnd q
  obtain ⟨v, u, x, rfl, hc, hS, hx⟩ := dpa3 hv
  have ex := dp_int hx
  subst ex
  have hlen := sok.len
  have h14 := cok.many
  rw [← chosen_law] at q
  refine ⟨_, (pss_cons (ps_setLc (i := 3) (own := [("_law_room", 4)]) (g := gName 4) (by rfl) sc_law_chosen.nd rfl rfl (sw_true rfl rfl rfl (by decide +kernel)) (pi_tup (pe_ix ix_tup (pv 1) pe_int (fun _ _ => rfl))) (blkOk_by (own := [("_law_room", 4)]) (N := N_law_chosen) (sc := defScope s_law_chosen) (by decide +kernel)) (fun _ _ _ _ _ => pg_name (i := 4) sc_law_chosen.nd rfl (.inl rfl)) (fun _ _ _ _ _ => (pts_one (pt_cmpR op_notN (C8.pe_c c_law_answer hr (by omega) (by rfl) (pa_cons (pv 0) (pa_cons (pv 1) (pa_cons (pv 4) (pa_cons (pv 2) pa_nil))))) pe_non (nomark _)))) (fun _ _ _ _ _ => (pv 4)))
    (pss_cons (ps_set (i := 5) sc_law_chosen.nd rfl (.inl rfl) (pe_lst pa_nil))
    (pss_cons (ps_for PassesOwn.never rfl (pi_list (pv 3)) (pg_name (i := 4) sc_law_chosen.nd rfl (.inr rfl)) (Evl.pss_cut (ps_if (pt_cmpR op_eq (pe_ix ix_tup (pv 0) pe_int (fun _ _ => rfl)) pe_str (nomark _)) (pss_one (ps_setLc (i := 6) (own := [("_law_other", 7)]) (g := gName 7) (by rfl) sc_law_chosen.nd rfl rfl (sw_true rfl rfl rfl (by decide +kernel)) (pi_list (pv 3)) (blkOk_by (own := [("_law_other", 7)]) (N := N_law_chosen) (sc := defScope s_law_chosen) (by decide +kernel)) (fun _ _ _ _ _ => pg_name (i := 7) sc_law_chosen.nd rfl (.inl rfl)) (fun _ _ _ _ _ => (pts_one (pt_val (C8.pe_c c_law_lies hr (by omega) (by rfl) (pa_cons (pe_ix (r := rIxT K) ix_tup (pv 0) pe_int (fun _ _ => rfl)) (pa_cons (pv 7) (pa_cons (pv 4) pa_nil))))))) (fun _ _ _ _ _ => (pv 7)))) (pss_one (ps_setLc (i := 6) (own := [("_law_other", 7)]) (g := gName 7) (by rfl) sc_law_chosen.nd rfl rfl (sw_true rfl rfl rfl (by decide +kernel)) (pi_list (pv 3)) (blkOk_by (own := [("_law_other", 7)]) (N := N_law_chosen) (sc := defScope s_law_chosen) (by decide +kernel)) (fun _ _ _ _ _ => pg_name (i := 7) sc_law_chosen.nd rfl (.inl rfl)) (fun _ _ _ _ _ => (pts_one (pt_val (C8.pe_c c_law_lies hr (by omega) (by rfl) (pa_cons (pe_ix (r := rIxT K) ix_tup (pv 0) pe_int (fun _ _ => rfl)) (pa_cons (pv 4) (pa_cons (pv 7) pa_nil))))))) (fun _ _ _ _ _ => (pv 7)))))
    (pss_one (ps_if (pt_cmpR op_eq (pe_callB call_len_seq (by rfl) T.m_len (by decide +kernel) (pa_cons (pv 6) pa_nil)) pe_int (nomark _)) (pss_one (ps_expr (pe_bm PySem.F.plainAttrs_list PySem.F.slot_list_append PySem.F.type_list_append mt_append (pv 5) (pa_cons (C8.pe_c c_law_answer hr (by omega) (by rfl) (pa_cons (pv 0) (pa_cons (pv 1) (pa_cons (pv 4) (pa_cons (pv 2) pa_nil))))) pa_nil)))) pss_nil))))
    (pss_one (ps_ret (pv 5)))))), ?_⟩
  -- answers
  refine q_asgL (xs := (ansL c S event).map V.int) (el_lcT (fun r => (ansF c S r event).isSome) V.int (evd_open (evd_var rfl hS)) (by omega) (fun x => rfl) (fun r H1 e1 hr1 => et_test (ev_notN (ev_lans (evd_var rfl (mv hc e1)) (evd_var rfl (mv hS e1)) (ev_var rfl) (ev_var rfl) ⟨hr1, h14⟩))) (fun r H1 e1 _ _ => ev_var rfl)) fun pA H1 npA e1 hpA => ?_
  have hAm : ∀ r ∈ ansL c S event, r ∈ S.opening := fun r hr => (List.mem_filter.mp hr).1
  have hAs : ∀ r ∈ ansL c S event, (ansF c S r event).isSome = true := fun r hr => (List.mem_filter.mp hr).2
  have hAl : (ansL c S event).length ≤ 20 := Nat.le_trans (List.length_filter_le _ _) hlen
  have hAr : ∀ r ∈ ansL c S event, aRoom c.rooms r := fun r hr => by
    have z := sok.inr r (hAm r hr)
    exact aRoom_of cok.rooms z.1 z.2
  -- doors
  refine q_asgL (el_lst ea_nil (Nat.zero_le _)) fun p H2 np e2 hp => ?_
  have e12 := e1.trans e2
  have npH := fresh_back e1 np
  have hpA2 := e2 _ _ hpA
  have hne : pA ≠ p := fun z => by
    rw [← z, hpA] at np
    cases np
  refine q_forLn (ev_var rfl) (SqL.of hpA2) (fun i σ' H' => Ex H H' ∧ (∃ y z a, σ' = [some v, some u, some (.int event), some (.ref pA), y, some (.ref p), z, a]) ∧ H' pA = some (.lst ((ansL c S event).map V.int)) ∧ H' p = some (.lst ((lChosF c S event ((ansL c S event).take i)).map V.int)))
    (fun H3 e3 => ⟨e12.trans e3, ⟨_, _, _, rfl⟩, e3 _ _ hpA2, e3 _ _ hp⟩) (fun i σ' H' _ p => SqL.of p.2.2.1) (fun i x σ' H' gx ⟨e, ⟨y, z, a, es⟩, hA, hl⟩ => ?_) fun σ' H' ⟨e, ⟨y, z, a, es⟩, hA, hl⟩ => ?_
  · subst es
    obtain ⟨r, gr, rfl⟩ : ∃ r, (ansL c S event)[i]? = some r ∧ x = .int r := by
      rw [List.getElem?_map] at gx
      cases cc : (ansL c S event)[i]? with
      | none =>
        rw [cc] at gx
        cases gx
      | some r =>
        rw [cc] at gx
        exact ⟨r, rfl, (Option.some.inj gx).symm⟩
    have hm := List.mem_of_getElem? gr
    have har := hAr r hm
    refine q_cut (M := fun σ' H4 => Ex H' H4 ∧ ∃ (p2 : Addr) (a : Option V), σ' = [some v, some u, some (.int event), some (.ref pA), some (.int r), some (.ref p), some (.ref p2), a] ∧ H4 p2 = some (.lst (((ansL c S event).filter (aheadF c r)).map V.int))) ?_ ?_
    · refine s_if (et_test (ev_eqS (ev_order (evd_var rfl (mv hc e))) ev_c)) (fun hb H4 e4 => ?_) fun hb H4 e4 => ?_
      · rw [ord_in] at hb
        have e04 := e.trans e4
        have ea : aheadF c r = fun o => liesF c.rooms o r := by
          unfold aheadF
          rw [hb]
          rfl
        rw [ea]
        exact s_asgL (el_lcLI (fun o => liesF c.rooms o r) V.int (evd_var rfl (dp_lints (e4 _ _ hA))) (by omega) (fun x => rfl) (fun o H5 e5 ho => et_B (ev_llies (evd_rooms (evd_var rfl (mv hc (e04.trans e5)))) (ev_var rfl) (ev_var rfl) ⟨hAr o ho, har⟩)) (fun o H5 e5 _ _ => ev_var rfl)) fun p2 H5 np2 e5 hp2 => ⟨e4.trans e5, p2, _, rfl, hp2⟩
      · rw [ord_in] at hb
        have e04 := e.trans e4
        have ea : aheadF c r = fun o => liesF c.rooms r o := by
          unfold aheadF
          rw [hb]
          rfl
        rw [ea]
        exact s_asgL (el_lcLI (fun o => liesF c.rooms r o) V.int (evd_var rfl (dp_lints (e4 _ _ hA))) (by omega) (fun x => rfl) (fun o H5 e5 ho => et_B (ev_llies (evd_rooms (evd_var rfl (mv hc (e04.trans e5)))) (ev_var rfl) (ev_var rfl) ⟨har, hAr o ho⟩)) (fun o H5 e5 _ _ => ev_var rfl)) fun p2 H5 np2 e5 hp2 => ⟨e4.trans e5, p2, _, rfl, hp2⟩
    · rintro σ' H4 ⟨e4, p2, a, rfl, hp2⟩
      have e04 := e.trans e4
      have hsn : lChosF c S event ((ansL c S event).take (i + 1)) = lChosF c S event ((ansL c S event).take i) ++ (if decide (((ansL c S event).filter (aheadF c r)).length = 0) = true then (match ansF c S r event with
          | some k => [k]
          | none => []) else []) := by
        unfold lChosF
        rw [take_snoc gr, List.filter_append, List.filterMap_append]
        cases cc : decide (((ansL c S event).filter (aheadF c r)).length = 0) with
        | false =>
          rw [List.filter_cons_of_neg (by rw [cc]; exact Bool.false_ne_true)]
          rfl
        | true =>
          rw [List.filter_cons_of_pos (by exact cc), List.filter_nil, List.filterMap_cons, List.filterMap_nil]
          cases ansF c S r event <;> rfl
      have hll : (((ansL c S event).filter (aheadF c r)).map PyData.int).length = ((ansL c S event).filter (aheadF c r)).length := List.length_map ..
      refine s_when (et_is (et_test (ev_eqI (ev_lenL (ds := ((ansL c S event).filter (aheadF c r)).map PyData.int) (evd_var rfl (dp_lints hp2))) ev_c)) (show _ = decide (((ansL c S event).filter (aheadF c r)).length = 0) by
        rw [hll]
        exact decide_eq_decide.mpr (by omega))) (fun hb H5 e5 => ?_) fun hb H5 e5 => ?_
      · obtain ⟨k, hk⟩ := Option.isSome_iff_exists.mp (hAs r hm)
        rw [if_pos hb, hk] at hsn
        have e05 := e04.trans e5
        have hz : (lChosF c S event ((ansL c S event).take i)).length ≤ 20 := by
          unfold lChosF
          have z1 := List.length_filterMap_le (fun r => ansF c S r event) (((ansL c S event).take i).filter fun r => decide (((ansL c S event).filter (aheadF c r)).length = 0))
          have z2 := List.length_filter_le (fun r => decide (((ansL c S event).filter (aheadF c r)).length = 0)) ((ansL c S event).take i)
          rw [List.length_take] at z2
          omega
        refine s_app (v := .int k) ((e4.trans e5) _ _ hl) (ev_var rfl) (ev_is (ev_lans (evd_var rfl (mv hc e05)) (evd_var rfl (mv hS e05)) (ev_var rfl) (ev_var rfl) ⟨hAm r hm, h14⟩) (by rw [hk]; rfl)) (by rw [List.length_map]; omega) fun H6 e6 => ?_
        refine ⟨(e05.trans e6).mut npH, ⟨_, _, _, rfl⟩, ?_, ?_⟩
        · rw [upd_ne hne]
          exact e6 _ _ (e5 _ _ (e4 _ _ hA))
        · rw [upd_same, hsn, List.map_append]
          rfl
      · rw [if_neg (by rw [hb]; exact Bool.false_ne_true), List.append_nil] at hsn
        refine ⟨e04.trans e5, ⟨_, _, _, rfl⟩, e5 _ _ (e4 _ _ hA), ?_⟩
        rw [hsn]
        exact e5 _ _ (e4 _ _ hl)
  · subst es
    rw [List.length_map, List.take_length] at hl
    exact s_ret (ev_var rfl) fun H5 e5 => q p H5 npH (e.trans e5) (e5 _ _ hl)
end
end Nh
/-! NhLDue: the law's turn. -/
namespace Nh
open PySem PySem.Spec PyProof.Rows L2 Evl
section
variable {P : Program} {w : World} {K : PySem.W.Frag} {mg : Str → Option Value} {base : Heap} {CR CL : Addr}
theorem fresh_ch {l p : Addr} {H H' : Hp} {o : HO} (c : Ch l H H') (hl : H' l = some o) (np : H' p = none) : H p = none := by
  cases z : H p with
  | none => rfl
  | some x =>
    have z2 := c _ _ z (ne_of_none hl np).symm
    rw [z2] at np
    cases np
section
variable {σ : L2.St} {H : Hp} {te tl : TE} {t : TT} {j : Nat} {vs : List Nat}
/-- the ints of a record's outs -/
theorem el_lcEnt {es : List Ent} {q : Addr} {rs : List V} (h : Ev tl σ H (.ref q)) (hq : H q = some (.lst rs)) (hd : DpAll K H rs (es.map eEnt)) (hz : es.length ≤ 40000) (hw : ∀ x, wipe ((wipe σ vs).set j (some x)) vs = wipe σ vs)
    (ht : ∀ e x H1, Ex H H1 → Dp K H1 x (eEnt e) → EvT t ((wipe σ vs).set j (some x)) H1 (decide (entWord e = "out"))) (he : ∀ n x H1, Ex H H1 → Dp K H1 x (eEnt (.num "out" n)) → Ev te ((wipe σ vs).set j (some x)) H1 (.int n)) :
    EvL (tLc (iList K tl) (gName j) t te vs) σ H ((es.filterMap outOf).map V.int) := fun H1 e Q q0 => h H1 e _ fun H2 e2 => by
  have s := SqL.of (K := K) ((e.trans e2) _ _ hq)
  have all := mva hd (e.trans e2)
  have hl := dpa_len all
  rw [List.length_map] at hl
  refine ⟨q, rfl, ⟨_, s⟩, fun Dl nD => lc_list (K := K) (a := q) (xs := rs) (fun i H' => H2 Dl = none ∧ Ex H2 H' ∧ H' Dl = some (.lst (((es.take i).filterMap outOf).map V.int))) ⟨nD, Ex.new nD, ?_⟩ (fun i H' _ p => ex_l p.2.1 s) (fun i x H' gx ⟨nD, e3, hD⟩ => ?_) fun H' p => ?_⟩
  · rw [upd_same, List.take_zero]
    rfl
  · obtain ⟨dd, gd, hx⟩ := dpa_at all gx
    obtain ⟨en, ge, rfl⟩ : ∃ en, es[i]? = some en ∧ dd = eEnt en := by
      rw [List.getElem?_map] at gd
      cases cc : es[i]? with
      | none =>
        rw [cc] at gd
        cases gd
      | some r =>
        rw [cc] at gd
        exact ⟨r, rfl, (Option.some.inj gd).symm⟩
    refine ⟨hw _, ?_⟩
    show t _ H' _
    refine ht en x H2 (e.trans e2) hx H' e3 _ fun H3 e4 => ?_
    have et := take_snoc ge
    have hb : ((es.take i).filterMap outOf).length ≤ es.length := by
      have z1 := List.length_filterMap_le outOf (es.take i)
      rw [List.length_take] at z1
      omega
    cases c : decide (entWord en = "out") with
    | false =>
      show H2 Dl = none ∧ Ex H2 H3 ∧ _
      refine ⟨nD, e3.trans e4, ?_⟩
      rw [et, List.filterMap_append, List.filterMap_cons, out_none (of_decide_eq_false c), List.filterMap_nil, List.append_nil]
      exact e4 _ _ hD
    | true =>
      obtain ⟨n, rfl⟩ := out_of (of_decide_eq_true c)
      show te _ H3 _
      refine he n x H2 (e.trans e2) hx H3 (e3.trans e4) _ fun H4 e5 => ⟨_, e5 _ _ (e4 _ _ hD), ?_, nD, ((e3.trans e4).trans e5).mut nD, ?_⟩
      · refine sz_lt ?_
        rw [List.length_map]
        omega
      · rw [upd_same, et, List.filterMap_append, List.map_append]
        rfl
  · obtain ⟨nD, e3, hD⟩ := p
    refine q0 Dl H' (fresh_back e2 nD) (e2.trans e3) ?_
    rw [hD, hl, List.take_length]
end
/-- the law's turn on its way -/
structure DueI (K : PySem.W.Frag) (CL : Addr) (c : Chart) (H0 H : Hp) (L l pr pl pC : Addr) (ks : List Int) (cv sv : V) (S : Stand) (r : List Ent) (lf line : List Int) : Prop where
  ch : Ch l H0 H
  hc : Dp K H cv (eChart c)
  hS : Dp K H sv (eStand S)
  le : LetAt CL H L l c.most line
  nr : H0 pr = none
  rcd : ∃ rs, H pr = some (.lst rs) ∧ DpAll K H rs (r.map eEnt)
  lef : H pl = some (.lst (lf.map V.int))
  n1 : pr ≠ l
  n2 : pl ≠ l
  n3 : pC ≠ l
  lst : H pC = some (.lst (ks.map V.int))
theorem DueI.ex {c : Chart} {H0 H H' : Hp} {L l pr pl pC : Addr} {ks : List Int} {cv sv : V} {S : Stand} {r : List Ent} {lf line : List Int} (h : DueI K CL c H0 H L l pr pl pC ks cv sv S r lf line) (e : Ex H H') : DueI K CL c H0 H' L l pr pl pC ks cv sv S r lf line := by
  obtain ⟨h1, h2, h3, h4, h5, ⟨rs, h6, h7⟩, h8, n1, n2, n3, h9⟩ := h
  exact ⟨h1.trans (ch_ex e), mv h2 e, mv h3 e, h4.ex e, h5, ⟨rs, e _ _ h6, mva h7 e⟩, e _ _ h8, n1, n2, n3, e _ _ h9⟩
set_option maxHeartbeats 1000000 in
theorem cal_law_due (F : DefAt K mg "_law_due" s_law_due ["_law_chart", "_law_stand_here", "_law_event", "_law_letters"]) (c_law_chosen : C8.Cal P w K mg base 3 "_law_chosen" (spChosen K) []) (c_passed : C8.Cal P w K mg base 10 "passed" (spPassed K CL) []) : C8.Cal P w K mg base 11 "_law_due" (spTurn K CL) [] := by
  refine cal_of F sc_law_due (fun vs H Q E ⟨_, _, _, _, _, e, _⟩ => by rw [e]; rfl) (fun f cdv A outer s H vs Q E hr h => ?_)
  obtain ⟨⟨c, S, event, line⟩, v, u, L, l, rfl, hc, hS, hL, ⟨cok, hnm, sok, hnd⟩, k⟩ := h
  dsimp only at hc hS hL cok hnm sok hnd k
  have hcm : ∀ x ∈ chosenF c S event, 0 ≤ x ∧ x < c.doors.length := fun x hx => chosen_mem hx
  have hcl : (chosenF c S event).length ≤ 20 := Nat.le_trans (chosen_len c S event) sok.len
  have htf : turnF c S event line = turnGo c (chosenF c S event) S [.num "take" event] [] line := rfl
  refine ⟨_, (pss_cons (ps_set (i := 4) sc_law_due.nd rfl (.inl rfl) (pe_lst (pa_cons (pe_tup (pa_cons pe_str (pa_cons (pv 2) pa_nil))) pa_nil)))
    (pss_cons (ps_set (i := 5) sc_law_due.nd rfl (.inl rfl) (pe_lst pa_nil))
    (pss_cons (ps_for PassesOwn.never rfl (pi_list (C8.pe_c c_law_chosen hr (by omega) (by rfl) (pa_cons (pv 0) (pa_cons (pv 1) (pa_cons (pv 2) pa_nil))))) (pg_name (i := 6) sc_law_due.nd rfl (.inl rfl)) (pss_cons (ps_if (pt_cmpR op_in_seq (pe_ix ix_tup (pe_ix ix_tup (pe_ix ix_tup (pv 0) pe_int (fun _ _ => rfl)) (pv 6) (fun _ _ => rfl)) pe_int (fun _ _ => rfl)) (pv 5) (by rfl)) (pss_one ps_continue) pss_nil)
    (pss_cons (ps_set (i := 7) sc_law_due.nd rfl (.inl rfl) (C8.pe_c c_passed hr (by omega) (by rfl) (pa_cons (pv 0) (pa_cons (pv 1) (pa_cons (pv 6) (pa_cons (pv 3) pa_nil))))))
    (pss_cons (ps_set (i := 1) sc_law_due.nd rfl (.inl rfl) (pe_ix ix_tup (pv 7) pe_int (fun _ _ => rfl)))
    (pss_cons (ps_set (i := 4) sc_law_due.nd rfl (.inl rfl) (pe_op op_cat (pv 4) (pe_ix ix_tup (pv 7) pe_int (fun _ _ => rfl))))
    (pss_one (ps_set (i := 5) sc_law_due.nd rfl (.inl rfl) (pe_op op_cat (pv 5) (pe_lc (own := [("_law_entry", 8)]) (g := gName 8) (by rfl) sc_law_due.nd (pi_list (pe_ix ix_tup (pv 7) pe_int (fun _ _ => rfl))) (blkOk_by (own := [("_law_entry", 8)]) (N := N_law_due) (sc := defScope s_law_due) (by decide +kernel)) (fun _ _ _ _ _ => pg_name (i := 8) sc_law_due.nd rfl (.inl rfl)) (fun _ _ _ _ _ => (pts_one (pt_cmpR op_eq (pe_ix (r := rIxT K) ix_tup (pv 8) pe_int (fun _ _ => rfl)) pe_str (nomark _)))) (fun _ _ _ _ _ => (pe_ix (r := rIxT K) ix_tup (pv 8) pe_int (fun _ _ => rfl))))))))))))
    (pss_one (ps_ret (pe_tup (pa_cons (pv 1) (pa_cons (pv 4) pa_nil)))))))), ?_⟩
  -- record = [("take", event)]; left = []
  refine q_asgLD (K := K) (ead_cons (evd_tup (ead_cons (evd_str ev_c) (ead_cons (evd_int (ev_var rfl)) ead_nil)) (by show 2 ≤ 100000; omega)) ead_nil) (by show 1 ≤ 100000; omega) fun pr0 rs0 H1 npr e1 hpr hrs0 => ?_
  refine q_asgL (xs := []) (el_lst ea_nil (Nat.zero_le _)) fun pl0 H2 npl e2 hpl => ?_
  have e12 := e1.trans e2
  have nprl : pr0 ≠ l := (ne_of_none hL.ls npr).symm
  have npll : pl0 ≠ l := (ne_of_none (e1 _ _ hL.ls) npl).symm
  have eIt : EvL (tCall (spChosen K) [] C8.E0 (tCons (tVar 0) (tCons (tVar 1) (tCons (tVar 2) tNil)))) [some v, some u, some (.int event), some (.ref L), some (.ref pr0), some (.ref pl0), none, none, none] H2 ((chosenF c S event).map V.int) :=
    evl_call (⟨c, S, event⟩ : ChoArg) (ead_cons (evd_var rfl (mv hc e12)) (ead_cons (evd_var rfl (mv hS e12)) (ead_cons (evd_int (ev_var rfl)) ead_nil))) ⟨cok, hnm, sok, hnd⟩
  refine q_forNLn eIt (fun pC i σ' H' => ∃ (S' : Stand) (r : List Ent) (lf line' : List Int) (sv : V) (pr pl : Addr) (y6 y7 y8 : Option V), σ' = [some v, some sv, some (.int event), some (.ref L), some (.ref pr), some (.ref pl), y6, y7, y8] ∧
      turnGo c ((chosenF c S event).drop i) S' r lf line' = turnF c S event line ∧ StandOk c.rooms (20 + 42 * i) S' ∧ r.length ≤ 1 + 3800 * i ∧ lf.length ≤ r.length ∧ DueI K CL c H H' L l pr pl pC (chosenF c S event) v sv S' r lf line')
    (fun pC H3 npC e3 hpC => ⟨S, [.num "take" event], [], line, u, pr0, pl0, none, none, none, rfl, rfl, sok, Nat.le_refl 1, Nat.zero_le _, ?_⟩)
    (fun pC i σ' H' _ ⟨S', r, lf, line', sv, pr, pl, y6, y7, y8, es, hg, so, hrl, hll, I⟩ => SqL.of I.lst)
    (fun pC i x σ' H' gx ⟨S', r, lf, line', sv, pr, pl, y6, y7, y8, es, hg, so, hrl, hll, I⟩ => ?_) fun pC σ' H' ⟨S', r, lf, line', sv, pr, pl, y6, y7, y8, es, hg, so, hrl, hll, I⟩ => ?_
  · have e13 := e12.trans e3
    exact ⟨ch_ex e13, mv hc e13, mv hS e13, hL.ex e13, npr, ⟨rs0, e3 _ _ (e2 _ _ hpr), mva hrs0 (e2.trans e3)⟩, e3 _ _ hpl, nprl, npll, (ne_of_none (e12 _ _ hL.ls) npC).symm, hpC⟩
  · subst es
    obtain ⟨dk, gr, rfl⟩ : ∃ dk, (chosenF c S event)[i]? = some dk ∧ x = .int dk := by
      rw [List.getElem?_map] at gx
      cases cc : (chosenF c S event)[i]? with
      | none =>
        rw [cc] at gx
        cases gx
      | some r =>
        rw [cc] at gx
        exact ⟨r, rfl, (Option.some.inj gx).symm⟩
    have hdk := hcm dk (List.mem_of_getElem? gr)
    have hi : i < 20 := by
      have z := (List.getElem?_eq_some_iff.mp gr).1
      omega
    rw [drop_cons gr] at hg
    have hg' : (if (doorAt c.doors dk).room ∈ lf then turnGo c ((chosenF c S event).drop (i + 1)) S' r lf line' else turnGo c ((chosenF c S event).drop (i + 1)) (passedF c S' dk line').stand (r ++ (passedF c S' dk line').told) (lf ++ (passedF c S' dk line').told.filterMap outOf) (passedF c S' dk line').line) = turnF c S event line := hg
    refine q_when (b := decide ((doorAt c.doors dk).room ∈ lf)) (et_test (ev_inL (ev_int (evd_ix (evd_door (evd_var rfl I.hc) (ev_var rfl) hdk.1 hdk.2) ev_c ⟨by decide, rfl⟩)) (evd_var rfl (dp_lints I.lef)))) (fun hb H4 e4 => ?_) fun hb H4 e4 => ?_
    · -- the door's room was left
      rw [if_pos (of_decide_eq_true hb)] at hg'
      exact ⟨S', r, lf, line', sv, pr, pl, some (.int dk), y7, y8, rfl, hg', ⟨so.inr, by have z := so.len; omega, so.kept, fun row h => Nat.le_trans (so.rows row h) (by omega)⟩, by omega, hll, I.ex e4⟩
    · rw [if_neg (of_decide_eq_false hb)] at hg'
      have I4 := I.ex e4
      have pok : PassArg.ok ⟨c, S', dk, line', 20 + 42 * i⟩ := ⟨cok, hnm, so, by show 20 + 42 * i ≤ 900; omega, hdk.1, hdk.2⟩
      -- found = passed(chart, stand, door, letters)
      refine q_passed (x := ⟨c, S', dk, line', 20 + 42 * i⟩) (evd_var rfl I4.hc) (evd_var rfl I4.hS) (ev_var rfl) (ev_var rfl) I4.le pok fun H5 p q sv2 rs2 c5 hl5 hp5 hsv5 nq5 hq5 hrs5 => ?_
      dsimp only at hl5 hp5 hsv5 hrs5
      have hpo := passed_ok (line := line') cok so hdk.1 hdk.2
      have hpt := passed_told (line := line') cok so hdk.1 hdk.2
      generalize passedF c S' dk line' = g at hg' hl5 hsv5 hrs5 hpo hpt
      obtain ⟨rs, hrs, hrr⟩ := I4.rcd
      have t5 : TK H4 H5 := I4.le.tk c5
      have hrs5' := c5 _ _ hrs I4.n1
      have hlf5 := c5 _ _ I4.lef I4.n2
      have hC5 := c5 _ _ I4.lst I4.n3
      have hrr5 := dpa_tk t5 _ _ (nol_map nol_eEnt _) hrr
      have hc5 := mt I4.hc t5 (nol_eChart hnm)
      have len1 := dpa_len hrr
      have len2 := dpa_len hrs5
      rw [List.length_map] at len1 len2
      have hfl := List.length_filterMap_le outOf g.told
      -- stand = found[0]
      refine q_asg (v := sv2) (ev_op (ev_var rfl) ev_c (rv_ixT (SqT.of hp5) rfl)) fun H6 e6 => ?_
      -- record = record + found[1]
      refine q_asgL (el_catV (ev_var rfl) (e6 _ _ hrs5') (ev_op (ev_var rfl) ev_c (rv_ixT (SqT.of (e6 _ _ hp5)) rfl)) (e6 _ _ hq5) (by omega)) fun pr2 H7 npr2 e7 hpr2 => ?_
      have e57 := e6.trans e7
      -- left = left + [..]
      refine s_asgL (xs := (lf ++ g.told.filterMap outOf).map V.int) ?_ fun pl2 H8 npl2 e8 hpl2 => ?_
      · rw [List.map_append]
        refine el_catN (ev_var rfl) (e57 _ _ hlf5) (el_lcEnt (ev_op (ev_var rfl) ev_c (rv_ixT (SqT.of (e57 _ _ hp5)) rfl)) (e57 _ _ hq5) (mva hrs5 e57) (by omega) (fun x => rfl) (fun e x H1 _ hx => et_test (ev_eqS (evd_str_word hx) ev_c)) fun n x H1 _ hx => ev_int (evd_ix (evd_var rfl hx) ev_c ⟨by decide, rfl⟩)) ?_
        rw [List.length_map, List.length_map]
        omega
      · have e58 := e57.trans e8
        have ch5 : Ch l H H5 := I4.ch.trans c5
        have n1 : pr2 ≠ l := (ne_of_none (e6 _ _ hl5.ls) npr2).symm
        have n2 : pl2 ≠ l := (ne_of_none (e57 _ _ hl5.ls) npl2).symm
        refine ⟨g.stand, r ++ g.told, lf ++ g.told.filterMap outOf, g.line, sv2, pr2, pl2, some (.int dk), some (.ref p), y8, rfl, hg', ⟨hpo.inr, by have z := hpo.len; omega, hpo.kept, fun row h => Nat.le_trans (hpo.rows row h) (by omega)⟩, ?_, ?_, ?_⟩
        · rw [List.length_append]
          omega
        · rw [List.length_append, List.length_append]
          omega
        · refine ⟨ch5.trans (ch_ex e58), mv hc5 e58, mv hsv5 e58, hl5.ex e58, fresh_ch (ch5.trans (ch_ex e6)) (e6 _ _ hl5.ls) npr2, ⟨rs ++ rs2, e8 _ _ hpr2, ?_⟩, hpl2, n1, n2, I4.n3, e58 _ _ hC5⟩
          rw [List.map_append]
          exact dpa_app (mva hrr5 e58) (mva hrs5 e58)
  · subst es
    rw [List.length_map, List.drop_length] at hg
    have hg' : (⟨S', r, line'⟩ : Got) = turnF c S event line := hg
    rw [← hg'] at k
    obtain ⟨rs, hrs, hrr⟩ := I.rcd
    refine s_retPair (evd_var rfl I.hS) (ev_var rfl) fun p sv2 H7 e7 np hp hsv => ?_
    exact k H7 p pr sv2 rs (I.ch.trans (ch_ex e7)) (I.le.ex e7) hp hsv I.nr (e7 _ _ hrs) (mva hrr e7)
end
end Nh
/-! NhLaw: the law. -/
namespace Nh
open PySem PySem.Spec PyProof.Rows L2 Evl
/-! ### how many letters wait -/
theorem deed_line {most : Int} (hm : most ≤ 7) {s : Pst} (h : s.line.length ≤ 7) (d : Deed) : (deedF most s d).line.length ≤ 7 := by
  unfold deedF
  cases d with
  | say w => exact h
  | send e =>
    dsimp only
    split
    · exact h
    · show (s.line ++ [e]).length ≤ 7
      rw [List.length_append]
      show s.line.length + 1 ≤ 7
      omega
  | add n => exact h
theorem fold_line {most : Int} (hm : most ≤ 7) : ∀ (ds : List Deed) {s : Pst}, s.line.length ≤ 7 → (ds.foldl (deedF most) s).line.length ≤ 7
  | [], _, h => h
  | d :: ds, s, h => fold_line hm ds (deed_line hm h d)
theorem step_line {most : Int} (hm : most ≤ 7) {s : Pst} (h : s.line.length ≤ 7) (w : Str) (n : Int) (ds : List Deed) : (stepF most s w n ds).line.length ≤ 7 := fold_line hm ds h
theorem outs_line {most : Int} (hm : most ≤ 7) (R : List Room) : ∀ (left : List Int) {s : Pst}, s.line.length ≤ 7 → (outsF most R s left).line.length ≤ 7
  | [], _, h => h
  | r :: left, s, h => outs_line hm R left (step_line hm h "out" r (roomAt R r).outs)
theorem ins_line {most : Int} (hm : most ≤ 7) (R : List Room) : ∀ (gone : List Int) {s : Pst}, s.line.length ≤ 7 → (insF most R s gone).line.length ≤ 7
  | [], _, h => h
  | r :: gone, s, h => ins_line hm R gone (step_line hm h "in" r (roomAt R r).ins)
theorem passed_line {c : Chart} (hm : c.most ≤ 7) {line : List Int} (h : line.length ≤ 7) (S : Stand) (k : Int) : (passedF c S k line).line.length ≤ 7 := by
  have h0 : (passStart c S k line).line.length ≤ 7 := step_line hm (s := ⟨S.box, line, []⟩) h "door" k []
  unfold passedF
  split
  · exact step_line hm h0 "through" k (doorAt c.doors k).deeds
  · exact ins_line hm c.rooms (passGone c S k) (step_line hm (outs_line hm c.rooms (passLeft c S k) h0) "through" k (doorAt c.doors k).deeds)
theorem turn_line {c : Chart} (hm : c.most ≤ 7) : ∀ (ks : List Int) {S : Stand} {r : List Ent} {lf line : List Int}, line.length ≤ 7 → (turnGo c ks S r lf line).line.length ≤ 7
  | [], _, _, _, _, h => h
  | k :: ks, S, r, lf, line, h => by
    have e : turnGo c (k :: ks) S r lf line = if (doorAt c.doors k).room ∈ lf then turnGo c ks S r lf line else turnGo c ks (passedF c S k line).stand (r ++ (passedF c S k line).told) (lf ++ (passedF c S k line).told.filterMap outOf) (passedF c S k line).line := rfl
    rw [e]
    split
    · exact turn_line hm ks h
    · exact turn_line hm ks (passed_line hm h S k)
theorem mix_ok {ns : List Int} {k s : Int} (h : ns.length ≤ 63) (h2 : 0 ≤ k ∧ k ≤ 1000 ∧ 0 ≤ s ∧ s ≤ 100) : mixOk (ns, k, s) := ⟨h, h2⟩
theorem add_line {most e : Int} (hm : most ≤ 7) {line : List Int} (h : line.length ≤ 7) : (if most ≤ (line.length : Int) then line else line ++ [e]).length ≤ 7 := by
  split
  · exact h
  · rw [List.length_append]
    show line.length + 1 ≤ 7
    omega
section
variable {P : Program} {w : World} {K : PySem.W.Frag} {mg : Str → Option Value} {base : Heap} {CR CL : Addr}
theorem ex_chl {l : Addr} {H H1 H2 : Hp} (e : Ex H H1) (n : H l = none) (c : Ch l H1 H2) : Ex H H2 := fun b o hb => c b o (e _ _ hb) (ne_of_none hb n)
theorem LetAt.chx {H H' : Hp} {L l l' : Addr} {most : Int} {line : List Int} {ys : List V} (h : LetAt CL H L l most line) (c : Ch l' H H') (h' : H l' = some (.lst ys)) (n : l ≠ l') : LetAt CL H' L l most line := by
  obtain ⟨⟨dx, h1⟩, h2⟩ := h
  exact ⟨⟨dx, c _ _ h1 (ne_of h1 h' (by intro z; cases z))⟩, c _ _ h2 n⟩
section
variable {σ : L2.St} {H : Hp} {t0 t1 t2 t3 ta tb te to : TE} {tr : TA} {D : Ends} {tz : TS} {E : XK}
theorem q_asgX {α : Type} {ds : α → List PyData} {C : α → Prop} {B : α → PyData → Prop} {i : Nat} (x : α) (h : EvAD K tr σ H (ds x)) (c : C x) (k : ∀ d v H1, B x d → Ex H H1 → Dp K H1 v d → tz D (σ.set i (some v)) H1) :
    tSeq (tAsg (tCall (spX K ds C B) [] E tr) (gName i)) tz D σ H := h H (Ex.refl H) _ fun vs H2 e2 hs => by
  show spX K ds C B (vs ++ []) H2 _ E
  rw [List.append_nil]
  exact ⟨x, hs, c, fun d hd v H3 e3 hv => k d v H3 hd (e2.trans e3) hv⟩
theorem ev_min2 {i j : Int} (h : Ev ta σ H (.int i)) (h2 : Ev tb σ H (.int j)) : Ev (tCB (fun xs H Q => ∃ i j, xs = [.int i, .int j] ∧ Q (.int (if j < i then j else i)) H) (tCons ta (tCons tb tNil))) σ H (.int (if j < i then j else i)) := fun H1 e Q q =>
  h H1 e _ fun H2 e2 => h2 H2 (e.trans e2) _ fun H3 e3 => ⟨i, j, rfl, q H3 (e2.trans e3)⟩
theorem q_letters {i : Nat} {most : Int} (h0 : Ev t0 σ H (.int most)) (k : ∀ x l H', H x = none → H l = none → Ex H H' → LetAt CL H' x l most [] → tz D (σ.set i (some (.ref x))) H') :
    tSeq (tAsg (tMake CL (spLInit CL) [] E (tCons t0 tNil)) (gName i)) tz D σ H :=
  h0 H (Ex.refl H) _ fun H3 e3 => fun x dx nx ndx nex => by
    have eN : Ex H3 (upd (upd H3 dx (.own x)) x (.ins CL dx [])) := fun a o ha => by
      rw [upd_ne (ne_of_none ha nx), upd_ne (ne_of_none ha ndx)]
      exact ha
    refine ⟨x, dx, most, rfl, upd_same, fun H' l hl nl kp => ⟨rfl, ?_⟩⟩
    have nlx : l ≠ x := hl.ne.symm
    have nl3 : H3 l = none := by
      by_cases z : l = dx
      · rw [upd_ne nlx, z, upd_same] at nl
        cases nl
      · rw [upd_ne nlx, upd_ne z] at nl
        exact nl
    have eF : Ex H3 H' := fun a o ha => kp a o (eN a o ha) (ne_of_none ha nx)
    exact k x l H' (fresh_back e3 nx) (fresh_back e3 nl3) (e3.trans eF) hl
theorem q_ladd {L l : Addr} {most e : Int} {line : List Int} (hL : LetAt CL H L l most line) (hm : most ≤ 1000) (h0 : Ev to σ H (.ref L)) (h1 : Ev te σ H (.int e)) (k : ∀ H', Ch l H H' → LetAt CL H' L l most (if most ≤ (line.length : Int) then line else line ++ [e]) → tz D σ H') :
    tSeq (tDrop (tMeth CL "add" (spLAdd CL) [] E to (tCons te tNil))) tz D σ H :=
  h0 H (Ex.refl H) _ fun H1 e1 => by
    obtain ⟨dx, h2⟩ := (hL.ex e1).ob
    refine ⟨L, dx, _, rfl, h2, lf_no _ _ (by decide +kernel) (by decide +kernel), h1 H1 e1 _ fun H2 e2 => ?_⟩
    have eH := e1.trans e2
    refine ⟨L, l, most, e, line, rfl, hL.ex eH, hm, fun z H3 e3 => ?_, fun z H3 c3 h3 => ?_⟩
    · refine k H3 (ch_ex (eH.trans e3)) ?_
      rw [if_pos z]
      exact hL.ex (eH.trans e3)
    · refine k H3 ((ch_ex eH).trans c3) ?_
      rw [if_neg z]
      exact h3
theorem s_ladd {L l : Addr} {most e : Int} {line : List Int} (hL : LetAt CL H L l most line) (hm : most ≤ 1000) (h0 : Ev to σ H (.ref L)) (h1 : Ev te σ H (.int e)) (k : ∀ H', Ch l H H' → LetAt CL H' L l most (if most ≤ (line.length : Int) then line else line ++ [e]) → D.nx σ H') :
    tDrop (tMeth CL "add" (spLAdd CL) [] E to (tCons te tNil)) D σ H := q_ladd (tz := fun D => D.nx) hL hm h0 h1 k
theorem el_wait {L l : Addr} {most : Int} {line : List Int} (hL : LetAt CL H L l most line) (h0 : Ev to σ H (.ref L)) : EvL (tMeth CL "waiting" (spLWait CL) [] E to tNil) σ H (line.map V.int) := fun H1 e Q q =>
  h0 H1 e _ fun H2 e2 => by
    have h2 := hL.ex (e.trans e2)
    obtain ⟨dx, h3⟩ := h2.ob
    exact ⟨L, dx, _, rfl, h3, lf_no _ _ (by decide +kernel) (by decide +kernel), L, l, most, line, rfl, h2, fun p H3 np e3 hp => q p H3 (fresh_back e2 np) (e2.trans e3) hp⟩
theorem sm_lints {n : Nat} {a b : Addr} {ns : List Int} (ha : H a = some (.lst (ns.map V.int))) (hb : H b = some (.lst (ns.map V.int))) (hz : ns.length ≤ 100000) : Sm K H (n + 1) (.ref a) (.ref b) :=
  .lst ha hb rfl (by rw [List.length_map]; exact hz) fun i x y gx gy => by
    have e : x = y := Option.some.inj (gx.symm.trans gy)
    subst e
    rw [List.getElem?_map] at gx
    cases c : ns[i]? with
    | none =>
      rw [c] at gx
      cases gx
    | some r =>
      rw [c] at gx
      have ex : x = .int r := (Option.some.inj gx).symm
      subst ex
      exact .int n r
theorem ev_sameL {n : Nat} {ns : List Int} (h0 : EvL t0 σ H (ns.map V.int)) (h1 : EvL t1 σ H (ns.map V.int)) (hz : ns.length ≤ 100000) : Ev (tCall (spSm K (n + 1 + 1)) [] E (tCons t0 (tCons t1 tNil))) σ H (.bl true) := fun H1 e Q q =>
  h0 H1 e _ fun p H2 np e2 hp => h1 H2 (e.trans e2) _ fun p2 H3 np2 e3 hp2 => ⟨_, _, rfl, sm_lints (e3 _ _ hp) hp2 hz, fun H4 e4 => q H4 ((e2.trans e3).trans e4)⟩
theorem q_turn {i : Nat} {x : TurnArg} {L l : Addr} (h0 : EvD K t0 σ H (eChart x.chart)) (h1 : EvD K t1 σ H (eStand x.stand)) (h2 : Ev t2 σ H (.int x.event)) (h3 : Ev t3 σ H (.ref L)) (hL : LetAt CL H L l x.chart.most x.line) (ok : ChoArg.ok ⟨x.chart, x.stand, x.event⟩)
    (k : ∀ (H' : Hp) (p q : Addr) (sv : V) (rs : List V), Ch l H H' → LetAt CL H' L l x.chart.most (turnF x.chart x.stand x.event x.line).line → H' p = some (.tup [sv, .ref q]) → Dp K H' sv (eStand (turnF x.chart x.stand x.event x.line).stand) →
      H q = none → H' q = some (.lst rs) → DpAll K H' rs ((turnF x.chart x.stand x.event x.line).told.map eEnt) → tz D (σ.set i (some (.ref p))) H') :
    tSeq (tAsg (tCall (spTurn K CL) [] E (tCons t0 (tCons t1 (tCons t2 (tCons t3 tNil))))) (gName i)) tz D σ H :=
  h0 H (Ex.refl H) _ fun v H1 e1 hv => h1 H1 e1 _ fun u H2 e2 hu => h2 H2 (e1.trans e2) _ fun H3 e3 => h3 H3 ((e1.trans e2).trans e3) _ fun H4 e4 => by
    have eH := ((e1.trans e2).trans e3).trans e4
    exact ⟨x, v, u, L, l, rfl, mv hv ((e2.trans e3).trans e4), mv hu (e3.trans e4), hL.ex eH, ok, fun H' p q sv rs c5 hl hp hs nq hq hr => k H' p q sv rs ((ch_ex eH).trans c5) hl hp hs (fresh_back eH nq) hq hr⟩
end
theorem cut_names {ev : Int} (h : ev = 1 ∨ ev = 2) : nol (.tuple (cutD [.str "knock", .str "ring"] none (some ev))) = true := by
  rcases h with h | h <;> subst h <;> rfl
/-- the last of what the law compares -/
theorem sm_turn {H : Hp} {p q p2 q2 : Addr} {sv sv2 : V} {rs rs2 : List V} {g : Got} (h0 : g.stand.opening.length ≤ 100000) (h1 : g.stand.kept.length ≤ 100000) (h2 : ∀ row ∈ g.stand.kept, row.length ≤ 100000) (h3 : g.told.length ≤ 100000)
    (hp : H p = some (.tup [sv, .ref q])) (hs : Dp K H sv (eStand g.stand)) (hq : H q = some (.lst rs)) (hr : DpAll K H rs (g.told.map eEnt))
    (hp2 : H p2 = some (.tup [sv2, .ref q2])) (hs2 : Dp K H sv2 (eStand g.stand)) (hq2 : H q2 = some (.lst rs2)) (hr2 : DpAll K H rs2 (g.told.map eEnt)) : Sm K H 4 (.ref p) (.ref p2) := by
  refine .tup (SqT.of hp) (SqT.of hp2) rfl (by show 2 ≤ 100000; omega) fun i x y gx gy => ?_
  cases i with
  | zero =>
    have ex : sv = x := Option.some.inj gx
    have ey : sv2 = y := Option.some.inj gy
    subst ex
    subst ey
    exact sm_dp 3 _ _ _ (pl_stand 0 h0 h1 h2) hs hs2
  | succ i =>
    cases i with
    | zero =>
      have ex : V.ref q = x := Option.some.inj gx
      have ey : V.ref q2 = y := Option.some.inj gy
      subst ex
      subst ey
      have l1 := dpa_len hr
      have l2 := dpa_len hr2
      rw [List.length_map] at l1 l2
      refine .lst hq hq2 (by omega) (by omega) fun j x y gx gy => ?_
      obtain ⟨d, gd, hx⟩ := dpa_at hr gx
      obtain ⟨d2, gd2, hy⟩ := dpa_at hr2 gy
      have e : d = d2 := Option.some.inj (gd.symm.trans gd2)
      subst e
      obtain ⟨en, _, ed⟩ := List.mem_map.mp (List.mem_of_getElem? gd)
      subst ed
      exact sm_dp 2 _ _ _ (pl_ent 1 en) hx hy
    | succ i => cases gx
def spLaw (K : PySem.W.Frag) : Sp := fun vs H Q _ => ∃ (a : Addr) (ns : List Int), vs = [.ref a] ∧ SqL K H a (ns.map V.int) ∧ ns.length ≤ 63 ∧ ∀ H', Q (.bl true) H'
set_option maxHeartbeats 2000000 in
theorem ok_law {f : Addr} {fd : FuncData} (T : Txt mg) (lc : LetC K CL) (F : L2.Fun K "law" "law" s_law f fd) (c_law_mixed : C8.Cal P w K mg base 2 "_law_mixed" (spMix K) []) (c_law_rooms : C8.Cal P w K mg base 3 "_law_rooms" (spRooms K) []) (c_law_doors : C8.Cal P w K mg base 3 "_law_doors" (spDoors K) [])
    (c_law_stand : C8.Cal P w K mg base 3 "_law_stand" (spStand K) []) (c_Letters : C8.Mak P w K mg base 1 "Letters" CL (spLInit CL) []) (c_Letters_add : C8.Met P w K mg base 1 CL "add" (spLAdd CL) []) (c_Letters_waiting : C8.Met P w K mg base 1 CL "waiting" (spLWait CL) [])
    (c_law_due : C8.Cal P w K mg base 11 "_law_due" (spTurn K CL) []) (c_turn : C8.Cal P w K mg base 11 "turn" (spTurn K CL) []) (c_law_same : C8.Cal P w K mg base 5 "_law_same" (spSm K 5) []) : FnOk P w K mg base CX0 12 f fd ["_law_script"] (spLaw K) := by
  refine F.ok sc_law (fun vs H Q E ⟨_, _, e, _⟩ => by rw [e]; rfl) (fun cdv A outer s H vs Q E hr h => ?_)
  obtain ⟨a, ns, rfl, hsq, h63, k⟩ := h
  have ha : Dp K H (.ref a) (lints ns) := .lst hsq (dpa_ints ns)
  refine ⟨_, (pss_cons (ps_set (i := 1) sc_law.nd rfl (.inl rfl) (pe_op op_add pe_int (pe_op op_mod (C8.pe_c c_law_mixed hr (by omega) (by rfl) (pa_cons (pv 0) (pa_cons pe_int (pa_cons pe_int pa_nil)))) pe_int)))
    (pss_cons (ps_set (i := 2) sc_law.nd rfl (.inl rfl) (C8.pe_c c_law_rooms hr (by omega) (by rfl) (pa_cons (pv 0) (pa_cons (pv 1) pa_nil))))
    (pss_cons (ps_set (i := 3) sc_law.nd rfl (.inl rfl) (C8.pe_c c_law_doors hr (by omega) (by rfl) (pa_cons (pv 0) (pa_cons (pv 2) (pa_cons (pv 1) pa_nil)))))
    (pss_cons (ps_set (i := 4) sc_law.nd rfl (.inl rfl) (pe_ix ix_list (pe_lst (pa_cons pe_str (pa_cons pe_str pa_nil))) (pe_op op_mod (C8.pe_c c_law_mixed hr (by omega) (by rfl) (pa_cons (pv 0) (pa_cons pe_int (pa_cons pe_int pa_nil)))) pe_int) (fun _ _ => rfl)))
    (pss_cons (ps_set (i := 5) sc_law.nd rfl (.inl rfl) (pe_op op_mod (C8.pe_c c_law_mixed hr (by omega) (by rfl) (pa_cons (pv 0) (pa_cons pe_int (pa_cons pe_int pa_nil)))) pe_int))
    (pss_cons (ps_set (i := 6) sc_law.nd rfl (.inl rfl) (pe_slice sl_tupA (pe_tup (pa_cons pe_str (pa_cons pe_str pa_nil))) po_none (po_some (pv 1))))
    (pss_cons (ps_set (i := 7) sc_law.nd rfl (.inl rfl) (pe_tup (pa_cons (pv 4) (pa_cons (pv 5) (pa_cons pe_int (pa_cons (pe_tup (pa_cons (pe_tup (pa_cons pe_str (pa_cons pe_int (pa_cons pe_int pa_nil)))) pa_nil)) (pa_cons (pv 6) (pa_cons (pv 2) (pa_cons (pv 3) pa_nil)))))))))
    (pss_cons (ps_for PassesOwn.never rfl (pi_range1 (by rfl) T.m_range (pa_cons pe_int pa_nil)) (pg_name (i := 8) sc_law.nd rfl (.inl rfl)) (pss_cons (ps_set (i := 9) sc_law.nd rfl (.inl rfl) (C8.pe_c c_law_stand hr (by omega) (by rfl) (pa_cons (pv 0) (pa_cons (pv 2) (pa_cons (pe_op op_add pe_int (pe_op op_mul pe_int (pv 8))) pa_nil)))))
    (pss_one (ps_for PassesOwn.never rfl (pi_range1 (by rfl) T.m_range (pa_cons (pv 1) pa_nil)) (pg_name (i := 10) sc_law.nd rfl (.inl rfl)) (pss_cons (ps_set (i := 11) sc_law.nd rfl (.inl rfl) (C8.pe_mk c_Letters hr (by omega) (by rfl) (pa_cons (pv 5) pa_nil)))
    (pss_cons (ps_set (i := 12) sc_law.nd rfl (.inl rfl) (C8.pe_mk c_Letters hr (by omega) (by rfl) (pa_cons (pv 5) pa_nil)))
    (pss_cons (ps_for PassesOwn.never rfl (pi_range1 (by rfl) T.m_range (pa_cons (pe_callB (call_min2 rfl) (by rfl) T.m_min (by decide +kernel) (pa_cons (pv 5) (pa_cons (pe_op op_mod (C8.pe_c c_law_mixed hr (by omega) (by rfl) (pa_cons (pv 0) (pa_cons pe_int (pa_cons pe_int pa_nil)))) pe_int) pa_nil))) pa_nil)) (pg_name (i := 13) sc_law.nd rfl (.inl rfl)) (pss_cons (ps_expr (C8.pe_mt c_Letters_add hr (by omega) (pv 11) (pa_cons (pe_op op_mod (pv 13) (pv 1)) pa_nil)))
    (pss_one (ps_expr (C8.pe_mt c_Letters_add hr (by omega) (pv 12) (pa_cons (pe_op op_mod (pv 13) (pv 1)) pa_nil))))))
    (pss_cons (ps_set (i := 14) sc_law.nd rfl (.inl rfl) (C8.pe_c c_law_due hr (by omega) (by rfl) (pa_cons (pv 7) (pa_cons (pv 9) (pa_cons (pv 10) (pa_cons (pv 11) pa_nil))))))
    (pss_cons (ps_set (i := 15) sc_law.nd rfl (.inl rfl) (C8.pe_c c_turn hr (by omega) (by rfl) (pa_cons (pv 7) (pa_cons (pv 9) (pa_cons (pv 10) (pa_cons (pv 12) pa_nil))))))
    (pss_one (ps_if (PW.pt (pw_or (pt_not (pt_val (C8.pe_c c_law_same hr (by omega) (by rfl) (pa_cons (pv 15) (pa_cons (pv 14) pa_nil))))) (pw_or1 (pt_not (pt_val (C8.pe_c c_law_same hr (by omega) (by rfl) (pa_cons (C8.pe_mt0 c_Letters_waiting hr (by omega) (pv 12)) (pa_cons (C8.pe_mt0 c_Letters_waiting hr (by omega) (pv 11)) pa_nil)))))))) (pss_one (ps_ret pe_bl)) pss_nil)))))))))))
    (pss_one (ps_ret pe_bl)))))))))), ?_⟩
  -- events
  have hev : (1 + mixF ns 2 12 % 2 = 1 ∨ 1 + mixF ns 2 12 % 2 = 2) := by omega
  refine q_asg (v := .int (1 + mixF ns 2 12 % 2)) (ev_op ev_c (ev_modc (ev_mix (evd_var rfl ha) ev_c ev_c (mix_ok h63 (by decide))) (by decide)) rv_I0) fun H1 e1 => ?_
  generalize 1 + mixF ns 2 12 % 2 = ev at hev
  have ha1 := mv ha e1
  -- rooms, doors
  refine q_asgX (ns, ev) (ead_cons (evd_var rfl ha1) (ead_cons (evd_int (ev_var rfl)) ead_nil)) ⟨h63, by show 1 ≤ ev; omega⟩ fun d rv H2 ⟨R, rok, rmo, ed⟩ e2 hR => ?_
  subst ed
  refine q_asgX (⟨ns, R, ev⟩ : MkArg) (ead_cons (evd_var rfl (mv ha1 e2)) (ead_cons (evd_var rfl hR) (ead_cons (evd_int (ev_var rfl)) ead_nil))) ⟨h63, rok, rmo, by show 1 ≤ ev; omega⟩ fun d dv H3 ⟨Do, dln, dok, ed⟩ e3 hD => ?_
  subst ed
  dsimp only at dok
  have ha3 := mv ha1 (e2.trans e3)
  have hR3 := mv hR e3
  -- order, most, names
  refine q_asg (v := .str (eOrd (decide (mixF ns 3 12 % 2 = 0)))) (ev_str (evd_ixl (evd_lst (ead_cons (evd_str ev_c) (ead_cons (evd_str ev_c) ead_nil)) (by show 2 ≤ 100000; omega)) (ev_modc (ev_mix (evd_var rfl ha3) ev_c ev_c (mix_ok h63 (by decide))) (by decide)) ?_)) fun H4 e4 => ?_
  · have z : mixF ns 3 12 % 2 = 0 ∨ mixF ns 3 12 % 2 = 1 := by omega
    rcases z with z | z <;> rw [z] <;> exact ⟨by decide, rfl⟩
  generalize decide (mixF ns 3 12 % 2 = 0) = ob
  have hm : 0 ≤ mixF ns 4 12 % 8 ∧ mixF ns 4 12 % 8 ≤ 7 := by omega
  refine q_asg (v := .int (mixF ns 4 12 % 8)) (ev_modc (ev_mix (evd_var rfl (mv ha3 e4)) ev_c ev_c (mix_ok h63 (by decide))) (by decide)) fun H5 e5 => ?_
  generalize mixF ns 4 12 % 8 = most at hm
  refine q_asgD (evd_slA (evd_tup (ead_cons (evd_str ev_c) (ead_cons (evd_str ev_c) ead_nil)) (by show 2 ≤ 100000; omega)) eo_none (eo_some (ev_var rfl))) fun nv H6 e6 hN => ?_
  have hnol := cut_names hev
  generalize (PyData.tuple (cutD [.str "knock", .str "ring"] none (some ev))) = nms at hN hnol
  have e36 := (e4.trans e5).trans e6
  have cok : ChartOk ⟨ob, most, nms, R, Do⟩ := ⟨rok, fun x h0 h1 => by
    show DoorOk R (doorAt Do x)
    have h1' : x.toNat < Do.length := by
      have z : x < (Do.length : Int) := h1
      omega
    refine dok _ ?_
    unfold doorAt
    rw [List.getD_eq_getElem?_getD, List.getElem?_eq_getElem h1']
    exact List.getElem_mem h1', dln, hm⟩
  -- chart
  refine q_asgD (d := eChart ⟨ob, most, nms, R, Do⟩) (evd_tup (ead_cons (evd_str (ev_var rfl)) (ead_cons (evd_int (ev_var rfl)) (ead_cons (evd_int ev_c) (ead_cons (evd_tup (ead_cons (evd_tup (ead_cons (evd_str ev_c) (ead_cons (evd_int ev_c) (ead_cons (evd_int ev_c) ead_nil))) (by show 3 ≤ 100000; omega)) ead_nil) (by show 1 ≤ 100000; omega)) (ead_cons (evd_var rfl hN) (ead_cons (evd_var rfl (mv hR3 e36)) (ead_cons (evd_var rfl (mv hD e36)) ead_nil))))))) (by show 7 ≤ 100000; omega)) fun cv H7 e7 hC => ?_
  have e37 := e36.trans e7
  have ha7 := mv ha3 e37
  have hR7 := mv hR3 e37
  generalize hcc : (⟨ob, most, nms, R, Do⟩ : Chart) = c at hC cok
  have hcr : c.rooms = R := by rw [← hcc]
  have hcm : c.most = most := by rw [← hcc]
  have hcn : nol c.names = true := by rw [← hcc]; exact hnol
  have rmost := rok.most
  refine q_forR1 (ea_cons ev_c ea_nil) ⟨by decide, by decide⟩ (fun i σ' H' => Ex H7 H' ∧ ∃ y8 y9 y10 y11 y12 y13 y14 y15, σ' = [some (.ref a), some (.int ev), some rv, some dv, some (.str (eOrd ob)), some (.int most), some nv, some cv, y8, y9, y10, y11, y12, y13, y14, y15]) (fun H8 e8 => ⟨e8, _, _, _, _, _, _, _, _, rfl⟩)
    (fun i σ' H' hi ⟨e, y8, y9, y10, y11, y12, y13, y14, y15, es⟩ => ?_) fun σ' H' ⟨e, y8, y9, y10, y11, y12, y13, y14, y15, es⟩ => ?_
  · subst es
    -- stand
    refine q_asgX (⟨ns, R, 60 + 40 * (i : Int)⟩ : MkArg) (ead_cons (evd_var rfl (mv ha7 e)) (ead_cons (evd_var rfl (mv hR7 e)) (ead_cons (evd_int (ev_op ev_c (ev_op ev_c (ev_var rfl) (rv_I (C := CMul) (.inl ⟨by decide, by decide⟩))) rv_I0)) ead_nil))) ⟨h63, rok, rmo, by show 0 ≤ 60 + 40 * (i : Int); omega, by show 60 + 40 * (i : Int) ≤ 500; omega⟩ fun d sv H8 ⟨S, sok, snd, ed⟩ e8 hS => ?_
    subst ed
    dsimp only at sok
    rw [← hcr] at sok
    have e78 := e.trans e8
    have cho : ∀ x : Int, ChoArg.ok ⟨c, S, x⟩ := fun x => ⟨cok, hcn, sok, snd⟩
    refine s_forR1 (ea_cons (ev_var rfl) ea_nil) ⟨by omega, by omega⟩ (fun j σ' H' => Ex H8 H' ∧ ∃ y10 y11 y12 y13 y14 y15, σ' = [some (.ref a), some (.int ev), some rv, some dv, some (.str (eOrd ob)), some (.int most), some nv, some cv, some (.int (i : Int)), some sv, y10, y11, y12, y13, y14, y15]) (fun H9 e9 => ⟨e9, _, _, _, _, _, _, rfl⟩)
      (fun j σ' H' hj ⟨eb, y10, y11, y12, y13, y14, y15, es⟩ => ?_) fun σ' H' ⟨eb, y10, y11, y12, y13, y14, y15, es⟩ => ?_
    · subst es
      have hSb := mv hS eb
      have hCb := mv (mv hC e78) eb
      have hab := mv (mv ha7 e78) eb
      -- mine, theirs
      refine q_letters (ev_var rfl) fun L1 l1 Ha nL1 nl1 ea hL1 => ?_
      refine q_letters (ev_var rfl) fun L2 l2 Hb nL2 nl2 e2b hL2 => ?_
      have n12 : l1 ≠ l2 := ne_of_none hL1.ls nl2
      have nl2b := fresh_back ea nl2
      have eab := ea.trans e2b
      have hw : 0 ≤ (if mixF ns 5 13 % 3 < most then mixF ns 5 13 % 3 else most) ∧ (if mixF ns 5 13 % 3 < most then mixF ns 5 13 % 3 else most) ≤ 100000 := by split <;> omega
      refine q_forR1 (ea_cons (ev_min2 (ev_var rfl) (ev_modc (ev_mix (evd_var rfl (mv hab eab)) ev_c ev_c (mix_ok h63 (by decide))) (by decide))) ea_nil) hw (fun n σ' Hx => Ex H' Hx ∧ ∃ line y13, line.length ≤ 7 ∧ LetAt CL Hx L1 l1 most line ∧ LetAt CL Hx L2 l2 most line ∧ σ' = [some (.ref a), some (.int ev), some rv, some dv, some (.str (eOrd ob)), some (.int most), some nv, some cv, some (.int (i : Int)), some sv, some (.int (j : Int)), some (.ref L1), some (.ref L2), y13, y14, y15])
        (fun Hc ec => ⟨eab.trans ec, [], y13, Nat.zero_le _, (hL1.ex e2b).ex ec, hL2.ex ec, rfl⟩) (fun n σ' Hx hn ⟨ex, line, y13, h7, h1, h2, es⟩ => ?_) fun σ' Hx ⟨ex, line, y13, h7, h1, h2, es⟩ => ?_
      · subst es
        refine q_ladd h1 (by omega) (ev_var rfl) (ev_mod (ev_var rfl) (ev_var rfl) (by omega)) fun Hy cy hy => ?_
        have h2y := h2.chx cy h1.ls n12.symm
        refine s_ladd h2y (by omega) (ev_var rfl) (ev_mod (ev_var rfl) (ev_var rfl) (by omega)) fun Hz cz hz => ?_
        exact ⟨ex_chl (ex_chl ex nl1 cy) nl2b cz, _, some (.int (n : Int)), add_line hm.2 h7, hy.chx cz h2y.ls n12, hz, rfl⟩
      · subst es
        have hCx := mv hCb ex
        have hSx := mv hSb ex
        rw [← hcm] at h1 h2
        -- due, found
        refine q_turn (x := ⟨c, S, (j : Int), line⟩) (evd_var rfl hCx) (evd_var rfl hSx) (ev_var rfl) (ev_var rfl) h1 (cho _) fun H9 p q s1 rs c9 hl9 hp9 hs9 nq9 hq9 hr9 => ?_
        dsimp only at hl9 hs9 hr9
        have h29 := h2.chx c9 h1.ls n12.symm
        have hex := ex_chl ex nl1 c9
        refine q_turn (x := ⟨c, S, (j : Int), line⟩) (evd_var rfl (mv hCb hex)) (evd_var rfl (mv hSb hex)) (ev_var rfl) (ev_var rfl) h29 (cho _) fun HA p2 q2 s2 rs2 cA hlA hpA hsA nqA hqA hrA => ?_
        dsimp only at hlA hsA hrA
        have tA := h29.tk cA
        have hp := cA _ _ hp9 (ne_of hp9 h29.ls (by intro z; cases z))
        have hq := cA _ _ hq9 (ne_of_none h2.ls nq9).symm
        have hs := mt hs9 tA (nol_eStand _)
        have hr2 := dpa_tk tA _ _ (nol_map nol_eEnt _) hr9
        have hl1 := hl9.chx cA h29.ls n12
        have hb := turnGo_ok cok (chosenF c S (j : Int)) 0 S [.num "take" (j : Int)] [] line (fun x hx => chosen_mem hx) (by
          have z1 := chosen_len c S (j : Int)
          have z2 := sok.len
          omega) sok (Nat.le_refl 1)
        have htl := turn_line (c := c) (by rw [hcm]; exact hm.2) (chosenF c S (j : Int)) (S := S) (r := [.num "take" (j : Int)]) (lf := []) h7
        have hg : turnGo c (chosenF c S (j : Int)) S [.num "take" (j : Int)] [] line = turnF c S (j : Int) line := rfl
        rw [hg] at hb htl
        generalize turnF c S (j : Int) line = g at hlA hsA hrA hs hr2 hl1 hb htl
        obtain ⟨gok, gtl⟩ := hb
        have hsm : Sm K HA 4 (.ref p2) (.ref p) := sm_turn (g := g) (by have z := gok.len; omega) (by rw [gok.kept, hcr]; omega) (fun row h => by have z := gok.rows row h; omega) (by omega) hpA hsA hqA hrA hp hs hq hr2
        refine q_skipS (et_or (et_not (et_B (ev_same (ev_var rfl) (ev_var rfl) hsm))) fun _ => et_not (et_B (ev_sameL (n := 3) (el_wait hlA (ev_var rfl)) (el_wait hl1 (ev_var rfl)) ?_))) rfl fun HB eB => ?_
        · omega
        · exact ⟨(ex_chl hex nl2b cA).trans eB |> eb.trans, _, _, _, _, _, _, rfl⟩
    · subst es
      exact ⟨e78.trans eb, _, _, _, _, _, _, _, _, rfl⟩
  · subst es
    exact s_ret ev_c fun H8 e8 => k H8
end
end Nh
/-! NhEnd: what the program's top holds, the promises one after the other, the walk (printed by gen_end.py). -/
namespace Nh
open PySem PySem.Spec PyProof.Rows L2 Evl
section
variable {K : PySem.W.Frag} {h : Heap} {mg : Str → Option Value}
theorem def_at {x : Str} {st : Stmt} {ps : List Str} {f : Addr} {fd : FuncData} (X : K.In h) (G : h.Ns mainGlobals mg) (a : PySem.W.nsIn K mainGlobals x = some (some (.ref f))) (F : L2.Fun K x x st f fd)
    (b : ∀ (kV doc pm : Value) (an : Option Addr) (cdv ct : Value) (us : List Value), us.length = ps.length → bindArgs (PySem.W.fnOf x x (defArgs st) (defBody st) (defScope st) .none kV doc pm an cdv ct) ⟨us, []⟩ = pure (ps.zip us)) : DefAt K mg x st ps := ⟨f, fd, F, PySem.W.mg_of X G a, F.binds b⟩
theorem met_at {C : Addr} {m qual : Str} {st : Stmt} {ps : List Str} {f : Addr} {fd : FuncData} (c : Cls K C) (me : Meth K C m f) (F : L2.Fun K m qual st f fd)
    (b : ∀ (kV doc pm : Value) (an : Option Addr) (cdv ct : Value) (us : List Value), us.length = ps.length → bindArgs (PySem.W.fnOf m qual (defArgs st) (defBody st) (defScope st) .none kV doc pm an cdv ct) ⟨us, []⟩ = pure (ps.zip us)) : MetAt K C m qual st ps := ⟨f, fd, c, me, F, F.binds b⟩
theorem mak_at {x : Str} {C : Addr} {qual : Str} {st : Stmt} {ps : List Str} {f : Addr} {fd : FuncData} (X : K.In h) (G : h.Ns mainGlobals mg) (a : PySem.W.nsIn K mainGlobals x = some (some (.ref C))) (mk : Mk K C f) (F : L2.Fun K "__init__" qual st f fd)
    (b : ∀ (kV doc pm : Value) (an : Option Addr) (cdv ct : Value) (us : List Value), us.length = ps.length → bindArgs (PySem.W.fnOf "__init__" qual (defArgs st) (defBody st) (defScope st) .none kV doc pm an cdv ct) ⟨us, []⟩ = pure (ps.zip us)) : MakAt K mg x C qual st ps := ⟨f, fd, mk, PySem.W.mg_of X G a, F, F.binds b⟩
end
set_option maxHeartbeats 4000000 in
theorem all_mk {l : PySem.W.OpenLaw} {w : World} {K : PySem.W.Frag} {h : Heap} {mg : Str → Option Value} {fa CL CR f1 f2 f3 f4 f5 f6 f7 f8 f9 f10 f11 f12 f13 f14 f15 f16 f17 f18 f19 f20 f21 f22 f23 f24 f25 f26 f27 f28 f29 f30 f31 f32 f33 f34 f35 f36 f37 f38 f39 : Addr} (X : K.In h) (G : h.Ns mainGlobals mg) (hfa : mg "law" = some (.ref fa))
    {od1 an1 od2 an2 od3 an3 od4 an4 od5 an5 od6 an6 od7 an7 od8 an8 od9 an9 od10 an10 od11 an11 od12 an12 od13 an13 od14 an14 od15 an15 od16 an16 od17 an17 od18 an18 od19 an19 od20 an20 od21 an21 od22 an22 od23 an23 od24 an24 od25 an25 od26 an26 od27 an27 od28 an28 od29 an29 od30 an30 od31 an31 od32 an32 od33 an33 od34 an34 od35 an35 od36 an36 od37 an37 od38 an38 od39 an39 : Option Addr} {sl1 sl2 sl3 sl4 sl5 sl6 sl7 sl8 sl9 sl10 sl11 sl12 sl13 sl14 sl15 sl16 sl17 sl18 sl19 sl20 sl21 sl22 sl23 sl24 sl25 sl26 sl27 sl28 sl29 sl30 sl31 sl32 sl33 sl34 sl35 sl36 sl37 sl38 sl39 : Array (Option Value)} {oc1 kV1 dc1 pm1 cd1 ct1 oc2 kV2 dc2 pm2 cd2 ct2 oc3 kV3 dc3 pm3 cd3 ct3 oc4 kV4 dc4 pm4 cd4 ct4 oc5 kV5 dc5 pm5 cd5 ct5 oc6 kV6 dc6 pm6 cd6 ct6 oc7 kV7 dc7 pm7 cd7 ct7 oc8 kV8 dc8 pm8 cd8 ct8 oc9 kV9 dc9 pm9 cd9 ct9 oc10 kV10 dc10 pm10 cd10 ct10 oc11 kV11 dc11 pm11 cd11 ct11 oc12 kV12 dc12 pm12 cd12 ct12 oc13 kV13 dc13 pm13 cd13 ct13 oc14 kV14 dc14 pm14 cd14 ct14 oc15 kV15 dc15 pm15 cd15 ct15 oc16 kV16 dc16 pm16 cd16 ct16 oc17 kV17 dc17 pm17 cd17 ct17 oc18 kV18 dc18 pm18 cd18 ct18 oc19 kV19 dc19 pm19 cd19 ct19 oc20 kV20 dc20 pm20 cd20 ct20 oc21 kV21 dc21 pm21 cd21 ct21 oc22 kV22 dc22 pm22 cd22 ct22 oc23 kV23 dc23 pm23 cd23 ct23 oc24 kV24 dc24 pm24 cd24 ct24 oc25 kV25 dc25 pm25 cd25 ct25 oc26 kV26 dc26 pm26 cd26 ct26 oc27 kV27 dc27 pm27 cd27 ct27 oc28 kV28 dc28 pm28 cd28 ct28 oc29 kV29 dc29 pm29 cd29 ct29 oc30 kV30 dc30 pm30 cd30 ct30 oc31 kV31 dc31 pm31 cd31 ct31 oc32 kV32 dc32 pm32 cd32 ct32 oc33 kV33 dc33 pm33 cd33 ct33 oc34 kV34 dc34 pm34 cd34 ct34 oc35 kV35 dc35 pm35 cd35 ct35 oc36 kV36 dc36 pm36 cd36 ct36 oc37 kV37 dc37 pm37 cd37 ct37 oc38 kV38 dc38 pm38 cd38 ct38 oc39 kV39 dc39 pm39 cd39 ct39 : Value}
    (a1 : PySem.W.nsIn K mainGlobals "parent" = some (some (.ref f1)))
    (l1 : K.lookup f1 = some ⟨oc1, od1, .func (PySem.W.fnOf "parent" "parent" (defArgs s_parent) (defBody s_parent) (defScope s_parent) .none kV1 dc1 pm1 an1 cd1 ct1), sl1⟩) (c1 : PySem.W.codeIn K cd1 "parent" = true) (k1 : PySem.W.keepIn K (.ref f1) = true)
    (a2 : PySem.W.nsIn K mainGlobals "end_of" = some (some (.ref f2)))
    (l2 : K.lookup f2 = some ⟨oc2, od2, .func (PySem.W.fnOf "end_of" "end_of" (defArgs s_end_of) (defBody s_end_of) (defScope s_end_of) .none kV2 dc2 pm2 an2 cd2 ct2), sl2⟩) (c2 : PySem.W.codeIn K cd2 "end_of" = true) (k2 : PySem.W.keepIn K (.ref f2) = true)
    (a3 : PySem.W.nsIn K mainGlobals "kids" = some (some (.ref f3)))
    (l3 : K.lookup f3 = some ⟨oc3, od3, .func (PySem.W.fnOf "kids" "kids" (defArgs s_kids) (defBody s_kids) (defScope s_kids) .none kV3 dc3 pm3 an3 cd3 ct3), sl3⟩) (c3 : PySem.W.codeIn K cd3 "kids" = true) (k3 : PySem.W.keepIn K (.ref f3) = true)
    (a4 : PySem.W.nsIn K mainGlobals "lies_in" = some (some (.ref f4)))
    (l4 : K.lookup f4 = some ⟨oc4, od4, .func (PySem.W.fnOf "lies_in" "lies_in" (defArgs s_lies_in) (defBody s_lies_in) (defScope s_lies_in) .none kV4 dc4 pm4 an4 cd4 ct4), sl4⟩) (c4 : PySem.W.codeIn K cd4 "lies_in" = true) (k4 : PySem.W.keepIn K (.ref f4) = true)
    (a5 : PySem.W.nsIn K mainGlobals "hall_over" = some (some (.ref f5)))
    (l5 : K.lookup f5 = some ⟨oc5, od5, .func (PySem.W.fnOf "hall_over" "hall_over" (defArgs s_hall_over) (defBody s_hall_over) (defScope s_hall_over) .none kV5 dc5 pm5 an5 cd5 ct5), sl5⟩) (c5 : PySem.W.codeIn K cd5 "hall_over" = true) (k5 : PySem.W.keepIn K (.ref f5) = true)
    (a6 : PySem.W.nsIn K mainGlobals "bears" = some (some (.ref f6)))
    (l6 : K.lookup f6 = some ⟨oc6, od6, .func (PySem.W.fnOf "bears" "bears" (defArgs s_bears) (defBody s_bears) (defScope s_bears) .none kV6 dc6 pm6 an6 cd6 ct6), sl6⟩) (c6 : PySem.W.codeIn K cd6 "bears" = true) (k6 : PySem.W.keepIn K (.ref f6) = true)
    (a7 : PySem.W.nsIn K mainGlobals "entered" = some (some (.ref f7)))
    (l7 : K.lookup f7 = some ⟨oc7, od7, .func (PySem.W.fnOf "entered" "entered" (defArgs s_entered) (defBody s_entered) (defScope s_entered) .none kV7 dc7 pm7 an7 cd7 ct7), sl7⟩) (c7 : PySem.W.codeIn K cd7 "entered" = true) (k7 : PySem.W.keepIn K (.ref f7) = true)
    (a8 : PySem.W.nsIn K mainGlobals "goings_in" = some (some (.ref f8)))
    (l8 : K.lookup f8 = some ⟨oc8, od8, .func (PySem.W.fnOf "goings_in" "goings_in" (defArgs s_goings_in) (defBody s_goings_in) (defScope s_goings_in) .none kV8 dc8 pm8 an8 cd8 ct8), sl8⟩) (c8 : PySem.W.codeIn K cd8 "goings_in" = true) (k8 : PySem.W.keepIn K (.ref f8) = true)
    (a9 : PySem.W.nsIn K mainGlobals "goings_out" = some (some (.ref f9)))
    (l9 : K.lookup f9 = some ⟨oc9, od9, .func (PySem.W.fnOf "goings_out" "goings_out" (defArgs s_goings_out) (defBody s_goings_out) (defScope s_goings_out) .none kV9 dc9 pm9 an9 cd9 ct9), sl9⟩) (c9 : PySem.W.codeIn K cd9 "goings_out" = true) (k9 : PySem.W.keepIn K (.ref f9) = true)
    (a10 : PySem.W.nsIn K mainGlobals "plain_rooms" = some (some (.ref f10)))
    (l10 : K.lookup f10 = some ⟨oc10, od10, .func (PySem.W.fnOf "plain_rooms" "plain_rooms" (defArgs s_plain_rooms) (defBody s_plain_rooms) (defScope s_plain_rooms) .none kV10 dc10 pm10 an10 cd10 ct10), sl10⟩) (c10 : PySem.W.codeIn K cd10 "plain_rooms" = true) (k10 : PySem.W.keepIn K (.ref f10) = true)
    (a11 : PySem.W.nsIn K mainGlobals "kept_of" = some (some (.ref f11)))
    (l11 : K.lookup f11 = some ⟨oc11, od11, .func (PySem.W.fnOf "kept_of" "kept_of" (defArgs s_kept_of) (defBody s_kept_of) (defScope s_kept_of) .none kV11 dc11 pm11 an11 cd11 ct11), sl11⟩) (c11 : PySem.W.codeIn K cd11 "kept_of" = true) (k11 : PySem.W.keepIn K (.ref f11) = true)
    (a12 : PySem.W.nsIn K mainGlobals "keeping" = some (some (.ref f12)))
    (l12 : K.lookup f12 = some ⟨oc12, od12, .func (PySem.W.fnOf "keeping" "keeping" (defArgs s_keeping) (defBody s_keeping) (defScope s_keeping) .none kV12 dc12 pm12 an12 cd12 ct12), sl12⟩) (c12 : PySem.W.codeIn K cd12 "keeping" = true) (k12 : PySem.W.keepIn K (.ref f12) = true)
    (a13 : PySem.W.nsIn K mainGlobals "holds" = some (some (.ref f13)))
    (l13 : K.lookup f13 = some ⟨oc13, od13, .func (PySem.W.fnOf "holds" "holds" (defArgs s_holds) (defBody s_holds) (defScope s_holds) .none kV13 dc13 pm13 an13 cd13 ct13), sl13⟩) (c13 : PySem.W.codeIn K cd13 "holds" = true) (k13 : PySem.W.keepIn K (.ref f13) = true)
    (a14 : PySem.W.nsIn K mainGlobals "goals_of" = some (some (.ref f14)))
    (l14 : K.lookup f14 = some ⟨oc14, od14, .func (PySem.W.fnOf "goals_of" "goals_of" (defArgs s_goals_of) (defBody s_goals_of) (defScope s_goals_of) .none kV14 dc14 pm14 an14 cd14 ct14), sl14⟩) (c14 : PySem.W.codeIn K cd14 "goals_of" = true) (k14 : PySem.W.keepIn K (.ref f14) = true)
    (a15 : PySem.W.nsIn K mainGlobals "answer" = some (some (.ref f15)))
    (l15 : K.lookup f15 = some ⟨oc15, od15, .func (PySem.W.fnOf "answer" "answer" (defArgs s_answer) (defBody s_answer) (defScope s_answer) .none kV15 dc15 pm15 an15 cd15 ct15), sl15⟩) (c15 : PySem.W.codeIn K cd15 "answer" = true) (k15 : PySem.W.keepIn K (.ref f15) = true)
    (a16 : PySem.W.nsIn K mainGlobals "covered" = some (some (.ref f16)))
    (l16 : K.lookup f16 = some ⟨oc16, od16, .func (PySem.W.fnOf "covered" "covered" (defArgs s_covered) (defBody s_covered) (defScope s_covered) .none kV16 dc16 pm16 an16 cd16 ct16), sl16⟩) (c16 : PySem.W.codeIn K cd16 "covered" = true) (k16 : PySem.W.keepIn K (.ref f16) = true)
    (a17 : PySem.W.nsIn K mainGlobals "chosen" = some (some (.ref f17)))
    (l17 : K.lookup f17 = some ⟨oc17, od17, .func (PySem.W.fnOf "chosen" "chosen" (defArgs s_chosen) (defBody s_chosen) (defScope s_chosen) .none kV17 dc17 pm17 an17 cd17 ct17), sl17⟩) (c17 : PySem.W.codeIn K cd17 "chosen" = true) (k17 : PySem.W.keepIn K (.ref f17) = true)
    (a18 : PySem.W.nsIn K mainGlobals "changed" = some (some (.ref f18)))
    (l18 : K.lookup f18 = some ⟨oc18, od18, .func (PySem.W.fnOf "changed" "changed" (defArgs s_changed) (defBody s_changed) (defScope s_changed) .none kV18 dc18 pm18 an18 cd18 ct18), sl18⟩) (c18 : PySem.W.codeIn K cd18 "changed" = true) (k18 : PySem.W.keepIn K (.ref f18) = true)
    (a19 : PySem.W.nsIn K mainGlobals "done" = some (some (.ref f19)))
    (l19 : K.lookup f19 = some ⟨oc19, od19, .func (PySem.W.fnOf "done" "done" (defArgs s_done) (defBody s_done) (defScope s_done) .none kV19 dc19 pm19 an19 cd19 ct19), sl19⟩) (c19 : PySem.W.codeIn K cd19 "done" = true) (k19 : PySem.W.keepIn K (.ref f19) = true)
    (a20 : PySem.W.nsIn K mainGlobals "passed" = some (some (.ref f20)))
    (l20 : K.lookup f20 = some ⟨oc20, od20, .func (PySem.W.fnOf "passed" "passed" (defArgs s_passed) (defBody s_passed) (defScope s_passed) .none kV20 dc20 pm20 an20 cd20 ct20), sl20⟩) (c20 : PySem.W.codeIn K cd20 "passed" = true) (k20 : PySem.W.keepIn K (.ref f20) = true)
    (a21 : PySem.W.nsIn K mainGlobals "turn" = some (some (.ref f21)))
    (l21 : K.lookup f21 = some ⟨oc21, od21, .func (PySem.W.fnOf "turn" "turn" (defArgs s_turn) (defBody s_turn) (defScope s_turn) .none kV21 dc21 pm21 an21 cd21 ct21), sl21⟩) (c21 : PySem.W.codeIn K cd21 "turn" = true) (k21 : PySem.W.keepIn K (.ref f21) = true)
    (a22 : PySem.W.nsIn K mainGlobals "_law_cell_at" = some (some (.ref f22)))
    (l22 : K.lookup f22 = some ⟨oc22, od22, .func (PySem.W.fnOf "_law_cell_at" "_law_cell_at" (defArgs s_law_cell_at) (defBody s_law_cell_at) (defScope s_law_cell_at) .none kV22 dc22 pm22 an22 cd22 ct22), sl22⟩) (c22 : PySem.W.codeIn K cd22 "_law_cell_at" = true) (k22 : PySem.W.keepIn K (.ref f22) = true)
    (a23 : PySem.W.nsIn K mainGlobals "_law_mixed" = some (some (.ref f23)))
    (l23 : K.lookup f23 = some ⟨oc23, od23, .func (PySem.W.fnOf "_law_mixed" "_law_mixed" (defArgs s_law_mixed) (defBody s_law_mixed) (defScope s_law_mixed) .none kV23 dc23 pm23 an23 cd23 ct23), sl23⟩) (c23 : PySem.W.codeIn K cd23 "_law_mixed" = true) (k23 : PySem.W.keepIn K (.ref f23) = true)
    (a24 : PySem.W.nsIn K mainGlobals "_law_lies" = some (some (.ref f24)))
    (l24 : K.lookup f24 = some ⟨oc24, od24, .func (PySem.W.fnOf "_law_lies" "_law_lies" (defArgs s_law_lies) (defBody s_law_lies) (defScope s_law_lies) .none kV24 dc24 pm24 an24 cd24 ct24), sl24⟩) (c24 : PySem.W.codeIn K cd24 "_law_lies" = true) (k24 : PySem.W.keepIn K (.ref f24) = true)
    (a25 : PySem.W.nsIn K mainGlobals "_law_holds" = some (some (.ref f25)))
    (l25 : K.lookup f25 = some ⟨oc25, od25, .func (PySem.W.fnOf "_law_holds" "_law_holds" (defArgs s_law_holds) (defBody s_law_holds) (defScope s_law_holds) .none kV25 dc25 pm25 an25 cd25 ct25), sl25⟩) (c25 : PySem.W.codeIn K cd25 "_law_holds" = true) (k25 : PySem.W.keepIn K (.ref f25) = true)
    (a26 : PySem.W.nsIn K mainGlobals "_law_answer" = some (some (.ref f26)))
    (l26 : K.lookup f26 = some ⟨oc26, od26, .func (PySem.W.fnOf "_law_answer" "_law_answer" (defArgs s_law_answer) (defBody s_law_answer) (defScope s_law_answer) .none kV26 dc26 pm26 an26 cd26 ct26), sl26⟩) (c26 : PySem.W.codeIn K cd26 "_law_answer" = true) (k26 : PySem.W.keepIn K (.ref f26) = true)
    (a27 : PySem.W.nsIn K mainGlobals "_law_same" = some (some (.ref f27)))
    (l27 : K.lookup f27 = some ⟨oc27, od27, .func (PySem.W.fnOf "_law_same" "_law_same" (defArgs s_law_same) (defBody s_law_same) (defScope s_law_same) .none kV27 dc27 pm27 an27 cd27 ct27), sl27⟩) (c27 : PySem.W.codeIn K cd27 "_law_same" = true) (k27 : PySem.W.keepIn K (.ref f27) = true)
    (a28 : PySem.W.nsIn K mainGlobals "_law_deeds" = some (some (.ref f28)))
    (l28 : K.lookup f28 = some ⟨oc28, od28, .func (PySem.W.fnOf "_law_deeds" "_law_deeds" (defArgs s_law_deeds) (defBody s_law_deeds) (defScope s_law_deeds) .none kV28 dc28 pm28 an28 cd28 ct28), sl28⟩) (c28 : PySem.W.codeIn K cd28 "_law_deeds" = true) (k28 : PySem.W.keepIn K (.ref f28) = true)
    (a29 : PySem.W.nsIn K mainGlobals "_law_rooms" = some (some (.ref f29)))
    (l29 : K.lookup f29 = some ⟨oc29, od29, .func (PySem.W.fnOf "_law_rooms" "_law_rooms" (defArgs s_law_rooms) (defBody s_law_rooms) (defScope s_law_rooms) .none kV29 dc29 pm29 an29 cd29 ct29), sl29⟩) (c29 : PySem.W.codeIn K cd29 "_law_rooms" = true) (k29 : PySem.W.keepIn K (.ref f29) = true)
    (a30 : PySem.W.nsIn K mainGlobals "_law_doors" = some (some (.ref f30)))
    (l30 : K.lookup f30 = some ⟨oc30, od30, .func (PySem.W.fnOf "_law_doors" "_law_doors" (defArgs s_law_doors) (defBody s_law_doors) (defScope s_law_doors) .none kV30 dc30 pm30 an30 cd30 ct30), sl30⟩) (c30 : PySem.W.codeIn K cd30 "_law_doors" = true) (k30 : PySem.W.keepIn K (.ref f30) = true)
    (a31 : PySem.W.nsIn K mainGlobals "_law_stand" = some (some (.ref f31)))
    (l31 : K.lookup f31 = some ⟨oc31, od31, .func (PySem.W.fnOf "_law_stand" "_law_stand" (defArgs s_law_stand) (defBody s_law_stand) (defScope s_law_stand) .none kV31 dc31 pm31 an31 cd31 ct31), sl31⟩) (c31 : PySem.W.codeIn K cd31 "_law_stand" = true) (k31 : PySem.W.keepIn K (.ref f31) = true)
    (a32 : PySem.W.nsIn K mainGlobals "_law_chosen" = some (some (.ref f32)))
    (l32 : K.lookup f32 = some ⟨oc32, od32, .func (PySem.W.fnOf "_law_chosen" "_law_chosen" (defArgs s_law_chosen) (defBody s_law_chosen) (defScope s_law_chosen) .none kV32 dc32 pm32 an32 cd32 ct32), sl32⟩) (c32 : PySem.W.codeIn K cd32 "_law_chosen" = true) (k32 : PySem.W.keepIn K (.ref f32) = true)
    (a33 : PySem.W.nsIn K mainGlobals "_law_due" = some (some (.ref f33)))
    (l33 : K.lookup f33 = some ⟨oc33, od33, .func (PySem.W.fnOf "_law_due" "_law_due" (defArgs s_law_due) (defBody s_law_due) (defScope s_law_due) .none kV33 dc33 pm33 an33 cd33 ct33), sl33⟩) (c33 : PySem.W.codeIn K cd33 "_law_due" = true) (k33 : PySem.W.keepIn K (.ref f33) = true)
    (a34 : PySem.W.nsIn K mainGlobals "law" = some (some (.ref f34)))
    (l34 : K.lookup f34 = some ⟨oc34, od34, .func (PySem.W.fnOf "law" "law" (defArgs s_law) (defBody s_law) (defScope s_law) .none kV34 dc34 pm34 an34 cd34 ct34), sl34⟩) (c34 : PySem.W.codeIn K cd34 "law" = true) (k34 : PySem.W.keepIn K (.ref f34) = true)
    (a35 : PySem.W.findIn K (.ref CL) "__init__" = some (some (.ref f35))) (i35 : PySem.W.isFn K (.ref f35) = true)
    (l35 : K.lookup f35 = some ⟨oc35, od35, .func (PySem.W.fnOf "__init__" "Letters.__init__" (defArgs s_Letters___init__) (defBody s_Letters___init__) (defScope s_Letters___init__) .none kV35 dc35 pm35 an35 cd35 ct35), sl35⟩) (c35 : PySem.W.codeIn K cd35 "Letters.__init__" = true) (k35 : PySem.W.keepIn K (.ref f35) = true)
    (a36 : PySem.W.findIn K (.ref CL) "add" = some (some (.ref f36))) (i36 : PySem.W.isFn K (.ref f36) = true)
    (l36 : K.lookup f36 = some ⟨oc36, od36, .func (PySem.W.fnOf "add" "Letters.add" (defArgs s_Letters_add) (defBody s_Letters_add) (defScope s_Letters_add) .none kV36 dc36 pm36 an36 cd36 ct36), sl36⟩) (c36 : PySem.W.codeIn K cd36 "Letters.add" = true) (k36 : PySem.W.keepIn K (.ref f36) = true)
    (a37 : PySem.W.findIn K (.ref CL) "waiting" = some (some (.ref f37))) (i37 : PySem.W.isFn K (.ref f37) = true)
    (l37 : K.lookup f37 = some ⟨oc37, od37, .func (PySem.W.fnOf "waiting" "Letters.waiting" (defArgs s_Letters_waiting) (defBody s_Letters_waiting) (defScope s_Letters_waiting) .none kV37 dc37 pm37 an37 cd37 ct37), sl37⟩) (c37 : PySem.W.codeIn K cd37 "Letters.waiting" = true) (k37 : PySem.W.keepIn K (.ref f37) = true)
    (a38 : PySem.W.findIn K (.ref CR) "__init__" = some (some (.ref f38))) (i38 : PySem.W.isFn K (.ref f38) = true)
    (l38 : K.lookup f38 = some ⟨oc38, od38, .func (PySem.W.fnOf "__init__" "Road.__init__" (defArgs s_Road___init__) (defBody s_Road___init__) (defScope s_Road___init__) .none kV38 dc38 pm38 an38 cd38 ct38), sl38⟩) (c38 : PySem.W.codeIn K cd38 "Road.__init__" = true) (k38 : PySem.W.keepIn K (.ref f38) = true)
    (a39 : PySem.W.findIn K (.ref CR) "step" = some (some (.ref f39))) (i39 : PySem.W.isFn K (.ref f39) = true)
    (l39 : K.lookup f39 = some ⟨oc39, od39, .func (PySem.W.fnOf "step" "Road.step" (defArgs s_Road_step) (defBody s_Road_step) (defScope s_Road_step) .none kV39 dc39 pm39 an39 cd39 ct39), sl39⟩) (c39 : PySem.W.codeIn K cd39 "Road.step" = true) (k39 : PySem.W.keepIn K (.ref f39) = true)
    (aL : PySem.W.nsIn K mainGlobals "Letters" = some (some (.ref CL))) (pgL : PySem.W.plainGet K CL Str.empty = true) (hdL : PySem.W.hasDictIn K CL = true) (poL : PySem.W.plainOver K CL = true)
    (saL : PySem.W.findIn K (.ref CL) "__setattr__" = some (some (.builtin "object.__setattr__"))) (mkL : PySem.W.makesIn K CL = true) (kcL : PySem.W.keepIn K (.ref CL) = true)
    (aR : PySem.W.nsIn K mainGlobals "Road" = some (some (.ref CR))) (pgR : PySem.W.plainGet K CR Str.empty = true) (hdR : PySem.W.hasDictIn K CR = true) (poR : PySem.W.plainOver K CR = true)
    (saR : PySem.W.findIn K (.ref CR) "__setattr__" = some (some (.builtin "object.__setattr__"))) (mkR : PySem.W.makesIn K CR = true) (kcR : PySem.W.keepIn K (.ref CR) = true)
    (nL_most : PySem.W.findIn K (.ref CL) "most" = some none)
    (nL_line : PySem.W.findIn K (.ref CL) "line" = some none)
    (nR_sizes : PySem.W.findIn K (.ref CR) "sizes" = some none)
    (nR_boxes : PySem.W.findIn K (.ref CR) "boxes" = some none)
    (nR_letters : PySem.W.findIn K (.ref CR) "letters" = some none)
    (nR_record : PySem.W.findIn K (.ref CR) "record" = some none)
    (z_len : PySem.W.nsIn K mainGlobals "len" = some none)
    (z_range : PySem.W.nsIn K mainGlobals "range" = some none)
    (z_tuple : PySem.W.nsIn K mainGlobals "tuple" = some none)
    (z_list : PySem.W.nsIn K mainGlobals "list" = some none)
    (z_enumerate : PySem.W.nsIn K mainGlobals "enumerate" = some none)
    (z_reversed : PySem.W.nsIn K mainGlobals "reversed" = some none)
    (z_sorted : PySem.W.nsIn K mainGlobals "sorted" = some none)
    (z_max : PySem.W.nsIn K mainGlobals "max" = some none)
    (z_min : PySem.W.nsIn K mainGlobals "min" = some none)
    (z_isinstance : PySem.W.nsIn K mainGlobals "isinstance" = some none)
    (z_str : PySem.W.nsIn K mainGlobals "str" = some none)
    (z_int : PySem.W.nsIn K mainGlobals "int" = some none)
    (z_bool : PySem.W.nsIn K mainGlobals "bool" = some none) :
    ∃ fd : FuncData, (∀ (s : Shared) (v : Value), BindsTo s fd ⟨[v], []⟩ [("_law_script", v)]) ∧ ∀ base : Heap, K.In base → base.Ns mainGlobals mg → FnOk l.prog w K mg base CX0 12 fa fd ["_law_script"] (spLaw K) := by
  have e := hfa.symm.trans (PySem.W.mg_of X G a34)
  cases e
  have T : Txt mg := ⟨PySem.W.mg_none_of X G z_len, PySem.W.mg_none_of X G z_range, PySem.W.mg_none_of X G z_tuple, PySem.W.mg_none_of X G z_list, PySem.W.mg_none_of X G z_enumerate, PySem.W.mg_none_of X G z_reversed, PySem.W.mg_none_of X G z_sorted, PySem.W.mg_none_of X G z_max, PySem.W.mg_none_of X G z_min, PySem.W.mg_none_of X G z_isinstance, PySem.W.mg_none_of X G z_str, PySem.W.mg_none_of X G z_int, PySem.W.mg_none_of X G z_bool⟩
  have lc : LetC K CL := ⟨⟨pgL, hdL, poL, saL⟩, nL_most, nL_line⟩
  have rc : RoadC K CR := ⟨⟨pgR, hdR, poR, saR⟩, nR_sizes, nR_boxes, nR_letters, nR_record⟩
  have D_parent : DefAt K mg "parent" s_parent ["rooms", "room"] := def_at X G a1 (fun_mk l1 c1 k1) (fun _ _ _ _ _ _ us hl => match us, hl with | [_, _], _ => rfl)
  have D_end_of : DefAt K mg "end_of" s_end_of ["rooms", "room"] := def_at X G a2 (fun_mk l2 c2 k2) (fun _ _ _ _ _ _ us hl => match us, hl with | [_, _], _ => rfl)
  have D_kids : DefAt K mg "kids" s_kids ["rooms", "room"] := def_at X G a3 (fun_mk l3 c3 k3) (fun _ _ _ _ _ _ us hl => match us, hl with | [_, _], _ => rfl)
  have D_lies_in : DefAt K mg "lies_in" s_lies_in ["rooms", "one", "other"] := def_at X G a4 (fun_mk l4 c4 k4) (fun _ _ _ _ _ _ us hl => match us, hl with | [_, _, _], _ => rfl)
  have D_hall_over : DefAt K mg "hall_over" s_hall_over ["rooms", "one", "other"] := def_at X G a5 (fun_mk l5 c5 k5) (fun _ _ _ _ _ _ us hl => match us, hl with | [_, _, _], _ => rfl)
  have D_bears : DefAt K mg "bears" s_bears ["rooms", "room", "goals"] := def_at X G a6 (fun_mk l6 c6 k6) (fun _ _ _ _ _ _ us hl => match us, hl with | [_, _, _], _ => rfl)
  have D_entered : DefAt K mg "entered" s_entered ["rooms", "room", "goals"] := def_at X G a7 (fun_mk l7 c7 k7) (fun _ _ _ _ _ _ us hl => match us, hl with | [_, _, _], _ => rfl)
  have D_goings_in : DefAt K mg "goings_in" s_goings_in ["rooms", "under", "goals"] := def_at X G a8 (fun_mk l8 c8 k8) (fun _ _ _ _ _ _ us hl => match us, hl with | [_, _, _], _ => rfl)
  have D_goings_out : DefAt K mg "goings_out" s_goings_out ["rooms", "under", "opening"] := def_at X G a9 (fun_mk l9 c9 k9) (fun _ _ _ _ _ _ us hl => match us, hl with | [_, _, _], _ => rfl)
  have D_plain_rooms : DefAt K mg "plain_rooms" s_plain_rooms ["rooms", "some"] := def_at X G a10 (fun_mk l10 c10 k10) (fun _ _ _ _ _ _ us hl => match us, hl with | [_, _], _ => rfl)
  have D_kept_of : DefAt K mg "kept_of" s_kept_of ["rooms", "opening", "room", "before"] := def_at X G a11 (fun_mk l11 c11 k11) (fun _ _ _ _ _ _ us hl => match us, hl with | [_, _, _, _], _ => rfl)
  have D_keeping : DefAt K mg "keeping" s_keeping ["rooms", "opening", "left", "kept"] := def_at X G a12 (fun_mk l12 c12 k12) (fun _ _ _ _ _ _ us hl => match us, hl with | [_, _, _, _], _ => rfl)
  have D_holds : DefAt K mg "holds" s_holds ["guard", "opening", "boxes"] := def_at X G a13 (fun_mk l13 c13 k13) (fun _ _ _ _ _ _ us hl => match us, hl with | [_, _, _], _ => rfl)
  have D_goals_of : DefAt K mg "goals_of" s_goals_of ["chart", "kept", "door"] := def_at X G a14 (fun_mk l14 c14 k14) (fun _ _ _ _ _ _ us hl => match us, hl with | [_, _, _], _ => rfl)
  have D_answer : DefAt K mg "answer" s_answer ["chart", "stand", "room", "event"] := def_at X G a15 (fun_mk l15 c15 k15) (fun _ _ _ _ _ _ us hl => match us, hl with | [_, _, _, _], _ => rfl)
  have D_covered : DefAt K mg "covered" s_covered ["chart", "room", "answers"] := def_at X G a16 (fun_mk l16 c16 k16) (fun _ _ _ _ _ _ us hl => match us, hl with | [_, _, _], _ => rfl)
  have D_chosen : DefAt K mg "chosen" s_chosen ["chart", "stand", "event"] := def_at X G a17 (fun_mk l17 c17 k17) (fun _ _ _ _ _ _ us hl => match us, hl with | [_, _, _], _ => rfl)
  have D_changed : DefAt K mg "changed" s_changed ["deed", "boxes", "sizes"] := def_at X G a18 (fun_mk l18 c18 k18) (fun _ _ _ _ _ _ us hl => match us, hl with | [_, _, _], _ => rfl)
  have D_done : DefAt K mg "done" s_done ["deeds", "boxes", "sizes", "letters"] := def_at X G a19 (fun_mk l19 c19 k19) (fun _ _ _ _ _ _ us hl => match us, hl with | [_, _, _, _], _ => rfl)
  have D_passed : DefAt K mg "passed" s_passed ["chart", "stand", "door", "letters"] := def_at X G a20 (fun_mk l20 c20 k20) (fun _ _ _ _ _ _ us hl => match us, hl with | [_, _, _, _], _ => rfl)
  have D_turn : DefAt K mg "turn" s_turn ["chart", "stand", "event", "letters"] := def_at X G a21 (fun_mk l21 c21 k21) (fun _ _ _ _ _ _ us hl => match us, hl with | [_, _, _, _], _ => rfl)
  have D_law_cell_at : DefAt K mg "_law_cell_at" s_law_cell_at ["_law_script", "_law_k"] := def_at X G a22 (fun_mk l22 c22 k22) (fun _ _ _ _ _ _ us hl => match us, hl with | [_, _], _ => rfl)
  have D_law_mixed : DefAt K mg "_law_mixed" s_law_mixed ["_law_script", "_law_k", "_law_salt"] := def_at X G a23 (fun_mk l23 c23 k23) (fun _ _ _ _ _ _ us hl => match us, hl with | [_, _, _], _ => rfl)
  have D_law_lies : DefAt K mg "_law_lies" s_law_lies ["_law_rooms_here", "_law_one", "_law_other"] := def_at X G a24 (fun_mk l24 c24 k24) (fun _ _ _ _ _ _ us hl => match us, hl with | [_, _, _], _ => rfl)
  have D_law_holds : DefAt K mg "_law_holds" s_law_holds ["_law_guard", "_law_opening", "_law_boxes"] := def_at X G a25 (fun_mk l25 c25 k25) (fun _ _ _ _ _ _ us hl => match us, hl with | [_, _, _], _ => rfl)
  have D_law_answer : DefAt K mg "_law_answer" s_law_answer ["_law_chart", "_law_stand_here", "_law_room", "_law_event"] := def_at X G a26 (fun_mk l26 c26 k26) (fun _ _ _ _ _ _ us hl => match us, hl with | [_, _, _, _], _ => rfl)
  have D_law_same : DefAt K mg "_law_same" s_law_same ["_law_found", "_law_due_here"] := def_at X G a27 (fun_mk l27 c27 k27) (fun _ _ _ _ _ _ us hl => match us, hl with | [_, _], _ => rfl)
  have D_law_deeds : DefAt K mg "_law_deeds" s_law_deeds ["_law_number", "_law_events"] := def_at X G a28 (fun_mk l28 c28 k28) (fun _ _ _ _ _ _ us hl => match us, hl with | [_, _], _ => rfl)
  have D_law_rooms : DefAt K mg "_law_rooms" s_law_rooms ["_law_script", "_law_events"] := def_at X G a29 (fun_mk l29 c29 k29) (fun _ _ _ _ _ _ us hl => match us, hl with | [_, _], _ => rfl)
  have D_law_doors : DefAt K mg "_law_doors" s_law_doors ["_law_script", "_law_rooms_here", "_law_events"] := def_at X G a30 (fun_mk l30 c30 k30) (fun _ _ _ _ _ _ us hl => match us, hl with | [_, _, _], _ => rfl)
  have D_law_stand : DefAt K mg "_law_stand" s_law_stand ["_law_script", "_law_rooms_here", "_law_at"] := def_at X G a31 (fun_mk l31 c31 k31) (fun _ _ _ _ _ _ us hl => match us, hl with | [_, _, _], _ => rfl)
  have D_law_chosen : DefAt K mg "_law_chosen" s_law_chosen ["_law_chart", "_law_stand_here", "_law_event"] := def_at X G a32 (fun_mk l32 c32 k32) (fun _ _ _ _ _ _ us hl => match us, hl with | [_, _, _], _ => rfl)
  have D_law_due : DefAt K mg "_law_due" s_law_due ["_law_chart", "_law_stand_here", "_law_event", "_law_letters"] := def_at X G a33 (fun_mk l33 c33 k33) (fun _ _ _ _ _ _ us hl => match us, hl with | [_, _, _, _], _ => rfl)
  have D_Letters___init__ : MakAt K mg "Letters" CL "Letters.__init__" s_Letters___init__ ["self", "most"] := mak_at X G aL ⟨mkL, a35, i35, kcL⟩ (fun_mk l35 c35 k35) (fun _ _ _ _ _ _ us hl => match us, hl with | [_, _], _ => rfl)
  have D_Letters_add : MetAt K CL "add" "Letters.add" s_Letters_add ["self", "event"] := met_at lc.cl ⟨a36, i36, k36⟩ (fun_mk l36 c36 k36) (fun _ _ _ _ _ _ us hl => match us, hl with | [_, _], _ => rfl)
  have D_Letters_waiting : MetAt K CL "waiting" "Letters.waiting" s_Letters_waiting ["self"] := met_at lc.cl ⟨a37, i37, k37⟩ (fun_mk l37 c37 k37) (fun _ _ _ _ _ _ us hl => match us, hl with | [_], _ => rfl)
  have D_Road___init__ : MakAt K mg "Road" CR "Road.__init__" s_Road___init__ ["self", "chart", "boxes", "letters"] := mak_at X G aR ⟨mkR, a38, i38, kcR⟩ (fun_mk l38 c38 k38) (fun _ _ _ _ _ _ us hl => match us, hl with | [_, _, _, _], _ => rfl)
  have D_Road_step : MetAt K CR "step" "Road.step" s_Road_step ["self", "word", "number", "deeds"] := met_at rc.cl ⟨a39, i39, k39⟩ (fun_mk l39 c39 k39) (fun _ _ _ _ _ _ us hl => match us, hl with | [_, _, _, _], _ => rfl)
  refine ⟨PySem.W.fnOf "law" "law" (defArgs s_law) (defBody s_law) (defScope s_law) .none kV34 dc34 pm34 an34 cd34 ct34, fun s v => .of_eq rfl, fun base _ _ => ?_⟩
  have c_Letters := mak_Letters (P := l.prog) (w := w) (base := base) lc D_Letters___init__
  have c_Letters_add := met_add (P := l.prog) (w := w) (base := base) T lc D_Letters_add
  have c_Letters_waiting := met_waiting (P := l.prog) (w := w) (base := base) T lc D_Letters_waiting
  have c_parent := cal_parent (P := l.prog) (w := w) (base := base) D_parent
  have c_end_of := cal_end_of (P := l.prog) (w := w) (base := base) T D_end_of
  have c_kids := cal_kids (P := l.prog) (w := w) (base := base) T D_kids c_end_of
  have c_lies_in := cal_lies_in (P := l.prog) (w := w) (base := base) D_lies_in c_end_of
  have c_hall_over := cal_hall_over (P := l.prog) (w := w) (base := base) D_hall_over c_parent c_lies_in
  have c_bears := cal_bears (P := l.prog) (w := w) (base := base) D_bears c_lies_in
  have c_entered := cal_entered (P := l.prog) (w := w) (base := base) D_entered c_kids c_bears
  have c_goings_in := cal_goings_in (P := l.prog) (w := w) (base := base) D_goings_in c_entered 5
  have c_goings_out := cal_goings_out (P := l.prog) (w := w) (base := base) T D_goings_out c_lies_in
  have c_plain_rooms := cal_plain_rooms (P := l.prog) (w := w) (base := base) D_plain_rooms
  have c_kept_of := cal_kept_of (P := l.prog) (w := w) (base := base) T D_kept_of c_plain_rooms c_lies_in
  have c_keeping := cal_keeping (P := l.prog) (w := w) (base := base) T D_keeping c_kept_of
  have c_holds := cal_holds (P := l.prog) (w := w) (base := base) D_holds
  have c_goals_of := cal_goals_of (P := l.prog) (w := w) (base := base) T D_goals_of
  have c_answer := cal_answer (P := l.prog) (w := w) (base := base) T D_answer c_holds
  have c_covered := cal_covered (P := l.prog) (w := w) (base := base) D_covered c_lies_in
  have c_chosen := cal_chosen (P := l.prog) (w := w) (base := base) D_chosen c_answer c_covered
  have c_changed := cal_changed (P := l.prog) (w := w) (base := base) D_changed
  have c_done := cal_done (P := l.prog) (w := w) (base := base) D_done c_changed c_Letters_add
  have c_Road := mak_Road (P := l.prog) (w := w) (base := base) T rc D_Road___init__
  have c_Road_step := met_step (P := l.prog) (w := w) (base := base) rc D_Road_step c_done
  have c_passed := cal_passed (P := l.prog) (w := w) (base := base) T rc D_passed c_Road c_Road_step c_hall_over c_goings_out c_keeping c_goings_in c_goals_of
  have c_turn := cal_turn (P := l.prog) (w := w) (base := base) D_turn c_chosen c_passed
  have c_law_cell_at := cal_cell (P := l.prog) (w := w) (base := base) T D_law_cell_at
  have c_law_mixed := cal_mixed (P := l.prog) (w := w) (base := base) T D_law_mixed c_law_cell_at
  have c_law_lies := cal_law_lies (P := l.prog) (w := w) (base := base) T D_law_lies
  have c_law_holds := cal_law_holds (P := l.prog) (w := w) (base := base) D_law_holds
  have c_law_answer := cal_law_answer (P := l.prog) (w := w) (base := base) T D_law_answer c_law_holds
  have c_law_same := cal_same (P := l.prog) (w := w) (base := base) T D_law_same 5
  have c_law_deeds := cal_law_deeds (P := l.prog) (w := w) (base := base) T D_law_deeds
  have c_law_rooms := cal_law_rooms (P := l.prog) (w := w) (base := base) T D_law_rooms c_law_mixed c_law_deeds
  have c_law_doors := cal_law_doors (P := l.prog) (w := w) (base := base) T D_law_doors c_law_mixed c_law_deeds
  have c_law_stand := cal_law_stand (P := l.prog) (w := w) (base := base) T D_law_stand c_law_mixed
  have c_law_chosen := cal_law_chosen (P := l.prog) (w := w) (base := base) T D_law_chosen c_law_answer c_law_lies
  have c_law_due := cal_law_due (P := l.prog) (w := w) (base := base) D_law_due c_law_chosen c_passed
  exact ok_law T lc (fun_mk l34 c34 k34) c_law_mixed c_law_rooms c_law_doors c_law_stand c_Letters c_Letters_add c_Letters_waiting c_law_due c_turn c_law_same
theorem walk {l : PySem.W.OpenLaw} {q : Program} {loose : List Str} {XP : (Str → Option Value) → Heap → Prop} {YP : World → Heap → Prop} {d : DefRec} {K : Params → PySem.W.Frag} (hn : l.most = some 63) (hdf : d.params.defaults = [])
    (hY : ∀ (w : World) (h : Heap), YP w h → (K w.params).In h)
    (F : ∀ (w : World) (mg : Str → Option Value) (fa : Addr) (h : Heap), (K w.params).In h → h.Ns mainGlobals mg → mg d.name = some (.ref fa) →
      ∃ fd : FuncData, (∀ (s : Shared) (u : Value), BindsTo s fd ⟨[u], []⟩ [("_law_script", u)]) ∧ ∀ base : Heap, (K w.params).In base → base.Ns mainGlobals mg → FnOk l.prog w (K w.params) mg base CX0 12 fa fd ["_law_script"] (spLaw (K w.params))) :
    PySem.W.WalkO q loose XP YP l.row.toRowW d [] (fun f vs => PySem.call f vs) :=
  L2.walk_of (n := 63) (k := 12) (x := "_law_script") (CX := fun _ => CX0) (sp := fun w => spLaw (K w.params)) hn (by decide) hdf ⟨rfl, by decide, by decide⟩ hY F (fun _ _ a ns hl _ hS => ⟨a, ns, rfl, hS, hl, fun _ => rfl⟩) fun _ _ _ _ _ z => z
end Nh
/-! NhRow: the row (printed by gen_end.py). -/
open PySem PySem.W PyProof.Rows
set_option maxRecDepth 100000 in
set_option maxHeartbeats 0 in
theorem PySem.Challenge.cw_nesthall_k26_a_turn_of_doors_holds : PySem.Challenge.rw_nesthall_k26_a_turn_of_doors.Holds := by
  w_on; o_law; k_head; (case hw => w_witness2)
  k_fill
  refine Nh.walk (l := PySem.Challenge.rw_nesthall_k26_a_turn_of_doors) rfl rfl (fun w h Y => PySem.W.kIn_of Y) ?F
  case F =>
    intro w mg fa h KX G hmg
    refine' Nh.all_mk KX G hmg ?a1 ?l1 ?c1 ?k1 ?a2 ?l2 ?c2 ?k2 ?a3 ?l3 ?c3 ?k3 ?a4 ?l4 ?c4 ?k4 ?a5 ?l5 ?c5 ?k5 ?a6 ?l6 ?c6 ?k6 ?a7 ?l7 ?c7 ?k7 ?a8 ?l8 ?c8 ?k8 ?a9 ?l9 ?c9 ?k9 ?a10 ?l10 ?c10 ?k10 ?a11 ?l11 ?c11 ?k11 ?a12 ?l12 ?c12 ?k12 ?a13 ?l13 ?c13 ?k13 ?a14 ?l14 ?c14 ?k14 ?a15 ?l15 ?c15 ?k15 ?a16 ?l16 ?c16 ?k16 ?a17 ?l17 ?c17 ?k17 ?a18 ?l18 ?c18 ?k18 ?a19 ?l19 ?c19 ?k19 ?a20 ?l20 ?c20 ?k20 ?a21 ?l21 ?c21 ?k21 ?a22 ?l22 ?c22 ?k22 ?a23 ?l23 ?c23 ?k23 ?a24 ?l24 ?c24 ?k24 ?a25 ?l25 ?c25 ?k25 ?a26 ?l26 ?c26 ?k26 ?a27 ?l27 ?c27 ?k27 ?a28 ?l28 ?c28 ?k28 ?a29 ?l29 ?c29 ?k29 ?a30 ?l30 ?c30 ?k30 ?a31 ?l31 ?c31 ?k31 ?a32 ?l32 ?c32 ?k32 ?a33 ?l33 ?c33 ?k33 ?a34 ?l34 ?c34 ?k34 ?a35 ?i35 ?l35 ?c35 ?k35 ?a36 ?i36 ?l36 ?c36 ?k36 ?a37 ?i37 ?l37 ?c37 ?k37 ?a38 ?i38 ?l38 ?c38 ?k38 ?a39 ?i39 ?l39 ?c39 ?k39 ?aL ?pgL ?hdL ?poL ?saL ?mkL ?kcL ?aR ?pgR ?hdR ?poR ?saR ?mkR ?kcR ?nL_most ?nL_line ?nR_sizes ?nR_boxes ?nR_letters ?nR_record ?z_len ?z_range ?z_tuple ?z_list ?z_enumerate ?z_reversed ?z_sorted ?z_max ?z_min ?z_isinstance ?z_str ?z_int ?z_bool
    (case aL => k_is)
    (case aR => k_is)
    (case a1 => k_is)
    (case l1 => k_is)
    (case c1 => k_is)
    (case k1 => k_is)
    (case a2 => k_is)
    (case l2 => k_is)
    (case c2 => k_is)
    (case k2 => k_is)
    (case a3 => k_is)
    (case l3 => k_is)
    (case c3 => k_is)
    (case k3 => k_is)
    (case a4 => k_is)
    (case l4 => k_is)
    (case c4 => k_is)
    (case k4 => k_is)
    (case a5 => k_is)
    (case l5 => k_is)
    (case c5 => k_is)
    (case k5 => k_is)
    (case a6 => k_is)
    (case l6 => k_is)
    (case c6 => k_is)
    (case k6 => k_is)
    (case a7 => k_is)
    (case l7 => k_is)
    (case c7 => k_is)
    (case k7 => k_is)
    (case a8 => k_is)
    (case l8 => k_is)
    (case c8 => k_is)
    (case k8 => k_is)
    (case a9 => k_is)
    (case l9 => k_is)
    (case c9 => k_is)
    (case k9 => k_is)
    (case a10 => k_is)
    (case l10 => k_is)
    (case c10 => k_is)
    (case k10 => k_is)
    (case a11 => k_is)
    (case l11 => k_is)
    (case c11 => k_is)
    (case k11 => k_is)
    (case a12 => k_is)
    (case l12 => k_is)
    (case c12 => k_is)
    (case k12 => k_is)
    (case a13 => k_is)
    (case l13 => k_is)
    (case c13 => k_is)
    (case k13 => k_is)
    (case a14 => k_is)
    (case l14 => k_is)
    (case c14 => k_is)
    (case k14 => k_is)
    (case a15 => k_is)
    (case l15 => k_is)
    (case c15 => k_is)
    (case k15 => k_is)
    (case a16 => k_is)
    (case l16 => k_is)
    (case c16 => k_is)
    (case k16 => k_is)
    (case a17 => k_is)
    (case l17 => k_is)
    (case c17 => k_is)
    (case k17 => k_is)
    (case a18 => k_is)
    (case l18 => k_is)
    (case c18 => k_is)
    (case k18 => k_is)
    (case a19 => k_is)
    (case l19 => k_is)
    (case c19 => k_is)
    (case k19 => k_is)
    (case a20 => k_is)
    (case l20 => k_is)
    (case c20 => k_is)
    (case k20 => k_is)
    (case a21 => k_is)
    (case l21 => k_is)
    (case c21 => k_is)
    (case k21 => k_is)
    (case a22 => k_is)
    (case l22 => k_is)
    (case c22 => k_is)
    (case k22 => k_is)
    (case a23 => k_is)
    (case l23 => k_is)
    (case c23 => k_is)
    (case k23 => k_is)
    (case a24 => k_is)
    (case l24 => k_is)
    (case c24 => k_is)
    (case k24 => k_is)
    (case a25 => k_is)
    (case l25 => k_is)
    (case c25 => k_is)
    (case k25 => k_is)
    (case a26 => k_is)
    (case l26 => k_is)
    (case c26 => k_is)
    (case k26 => k_is)
    (case a27 => k_is)
    (case l27 => k_is)
    (case c27 => k_is)
    (case k27 => k_is)
    (case a28 => k_is)
    (case l28 => k_is)
    (case c28 => k_is)
    (case k28 => k_is)
    (case a29 => k_is)
    (case l29 => k_is)
    (case c29 => k_is)
    (case k29 => k_is)
    (case a30 => k_is)
    (case l30 => k_is)
    (case c30 => k_is)
    (case k30 => k_is)
    (case a31 => k_is)
    (case l31 => k_is)
    (case c31 => k_is)
    (case k31 => k_is)
    (case a32 => k_is)
    (case l32 => k_is)
    (case c32 => k_is)
    (case k32 => k_is)
    (case a33 => k_is)
    (case l33 => k_is)
    (case c33 => k_is)
    (case k33 => k_is)
    (case a34 => k_is)
    (case l34 => k_is)
    (case c34 => k_is)
    (case k34 => k_is)
    (case a35 => k_is)
    (case i35 => k_is)
    (case l35 => k_is)
    (case c35 => k_is)
    (case k35 => k_is)
    (case a36 => k_is)
    (case i36 => k_is)
    (case l36 => k_is)
    (case c36 => k_is)
    (case k36 => k_is)
    (case a37 => k_is)
    (case i37 => k_is)
    (case l37 => k_is)
    (case c37 => k_is)
    (case k37 => k_is)
    (case a38 => k_is)
    (case i38 => k_is)
    (case l38 => k_is)
    (case c38 => k_is)
    (case k38 => k_is)
    (case a39 => k_is)
    (case i39 => k_is)
    (case l39 => k_is)
    (case c39 => k_is)
    (case k39 => k_is)
    (case pgL => k_is)
    (case hdL => k_is)
    (case poL => k_is)
    (case saL => k_is)
    (case mkL => k_is)
    (case kcL => k_is)
    (case pgR => k_is)
    (case hdR => k_is)
    (case poR => k_is)
    (case saR => k_is)
    (case mkR => k_is)
    (case kcR => k_is)
    (case nL_most => k_is)
    (case nL_line => k_is)
    (case nR_sizes => k_is)
    (case nR_boxes => k_is)
    (case nR_letters => k_is)
    (case nR_record => k_is)
    (case z_len => k_is)
    (case z_range => k_is)
    (case z_tuple => k_is)
    (case z_list => k_is)
    (case z_enumerate => k_is)
    (case z_reversed => k_is)
    (case z_sorted => k_is)
    (case z_max => k_is)
    (case z_min => k_is)
    (case z_isinstance => k_is)
    (case z_str => k_is)
    (case z_int => k_is)
    (case z_bool => k_is)
